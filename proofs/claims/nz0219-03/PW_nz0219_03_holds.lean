import PyProof.Rows.All
import PyProof.FString
import PyProof.EnumMake
import PyProof.ExcClass2
import PyProof.ExcBaseAll.ValueError
import PyProof.WalksMore
import PyProof.InstStoreFacts
import KE.KRevIter
import Wide.FinOn
import OpenK.AllK
import Wide.All
import PySem.Challenge.RW_nz0219_03
set_option Elab.async false
set_option autoImplicit false
set_option genInjectivity false
set_option genSizeOf false
set_option genCtorIdx false
set_option genSizeOfSpec false
set_option linter.unusedVariables false
set_option linter.deprecated false
set_option maxRecDepth 100000
namespace Lite
noncomputable section
open _root_.PySem _root_.PySem.W _root_.PyProof.Rows _root_.PySem.Calls
open _root_.Bool renaming noConfusion->aaa,and_eq_true_iff->aab,false_eq_true->aaK,false_ne_true->abe,or_eq_true_iff->abq,and_eq_true->abD,or_eq_false_iff->afi,not_true->afA,and_false->agC,or_true->ahj,false_and->aiR,or_self->ajD
open _root_.List renaming mem_append_right->aac,length_map->aad,append_assoc->aaf,length_append->aag,getElem?_eq_some_iff->aan,mem_append_left->aao,length_range->aap,map_append->aaq,append_nil->aar,forall_mem_cons->aas,getD_eq_getElem?_getD->aat,mem_map->aau,mem_append->aav,range->aaw,lookup_cons->aay,getElem?_eq_getElem->aaz,size_toArray->aaE,sublist_append_right->aaG,map_cons->aaH,nodup_cons->aaI,mem_singleton->aaP,replicate->aaT,all_eq_true->aaV,nodup_append->aaW,forall_mem_append->abd,length_cons->abi,getElem_range->abl,mem_range->abm,mem_map_of_mem->abp,map_eq_nil_iff->abr,getElem?_map->abu,mem_of_find?_eq_some->abv,mem_of_getElem?->abw,getElem_cons_drop->abx,drop_eq_nil_of_le->aby,nodup_nil->abC,find?_append->abF,getElem?_of_mem->abG,filter_append->abH,map_congr_left->abJ,flatMap_append->abK,map_map->abP,cons->abU,drop_eq_nil_iff->abW,take_of_length_le->aca,filterMap_cons_some->ach,length_drop->acj,flatMap_cons->acn,sublist_cons_self->acq,perm_middle->acy,mem_cons->acB,getElem?_toArray->acC,length_replicate->acE,find?_cons->acN,foldl_append->acO,cons_append->acV,filter_eq_nil_iff->acW,find?_eq_none->acX,contains_iff_mem->acZ,getElem?_eq_none_iff->adi,prefix_rfl->adt,length_set->adu,contains_cons->adv,forIn_cons->adw,find?_some->adx,append_of_mem->ady,range_succ->adz,perm_append_comm->adJ,filter_cons->adN,getElem_map->adO,getElem_toArray->adP,getElem?_set_ne->adR,forIn_nil->aeo,length->aey,range_succ_eq_map->aeH,mem_filter->aeQ,of_mem_zip->aeS,length_filter_le->aeT,filterMap_append->aeU,mem_of_mem_drop->afg,mem_of_mem_take->afh,mapM_cons->afl,filterMap_cons->afn,eraseDups_cons->afo,findIdx?_eq_some_iff_getElem->afx,zip_cons_cons->afy,drop->afz,eraseIdx_append_of_length_le->afB,any_eq_false->afI,eq_nil_iff_forall_not_mem->afV,ext_getElem->afZ,getElem_mem->aga,flatMap_nil->age,length_take->agf,getElem?_append_left->agD,findIdx?_eq_none_iff->agE,length_erase_of_mem->agH,all_cons->agJ,any_cons->agL,lookup_eq_none_iff->agN,map_take->agO,take_append_drop->ahl,replicate_succ->ahw,forall_mem_map->ahz,filter->ahB,length_take_le->ahF,filterMap_some->ahG,prefix_append->ahO,findIdx?_cons->ahP,zip_nil_right->ahT,filterMap_map->ahX,cons_eq_cons->ain,foldl->aio,getElem?_inj->aip,take_add_one->ait,isEmpty_iff->aiy,any_eq_true->aiB,take->aiL,length_nil->aiN,filter_nil->aiO,filterMap->aiX,take_nil->ajn,drop_nil->ajo,map_drop->ajq,all_map->ajy,map_nil->ajE,map_set->ajG
open _root_.Option renaming some->aae,bind_eq_some_iff->aaj,map_eq_some_iff->aaR,isNone_iff_eq_none->acb,isSome_iff_exists->adj,any_eq_true->ado,casesOn->ags,bind->ahi,or_none->aiA,none->ajm
open _root_.Nat renaming le_trans->aah,ble_eq_true_of_le->aaJ,le_refl->aaZ,lt_of_le_of_lt->aba,zero_le->abh,succ_le_succ->abE,le_of_ble_eq_true->abR,lt_of_lt_of_le->abV,ne_of_lt->abY,min_eq_left->acp,succ->acu,le_of_not_le->acF,noConfusion->acP,le_of_lt->acR,ble->acT,le_succ_of_le->ade,add_le_add_right->adg,le_succ->adE,succ_pos->adL,min_eq_right->adQ,add_le_add_left->aec,not_lt_zero->aed,lt_or_ge->aep,le_of_succ_le->aev,le_of_lt_succ->aew,lt_irrefl->aeC,le_add_right->aeI,zero_add->agc,le_antisymm->agw,succ_add_eq_add_succ->agK,mul_div_cancel_left->agR,le_mul_of_pos_right->agS,add_sub_cancel_left->agT,pow_le_pow_right->ahE,log2_lt->ahQ,mul_le_mul_left->ahR,add_sub_cancel'->ahW,lt_of_le_of_ne->air,not_lt->aiz,lt_succ_of_le->aiD,lt_succ_self->aiM,le_add_left->ajb,sub_self->ajZ,le_of_eq->akf,lt_trans->akg
open _root_.PySem renaming wpAny_pure->aai,call->aal,wpAny_bind->aam,NameKind->aax,builtinLookup_eq_fast->aaA,wpAny_of_eq->aaB,Shared->aaC,Builtin->aaD,wpAny_specialOf->aaN,typeLookup_type->aaQ,Around->aaY,holding->abb,bm_if_false->abn,isSubtype_type->abM,checkBuiltinCall->abS,wpAny_holding->abT,Operator->abZ,holding->ace,strLen_append->aci,typeLookup->ack,standAt->acr,bindName->acs,sysModules->acw,wpAny_field->acz,letOwnedTupleGo->acA,Program->acI,wpAny_isInstance->acJ,wpAny_rule->acK,assign->acL,swappedStores->acM,mainGlobals->acQ,wpAny_newObj_type->acU,theTreesLotGoes->adh,assignInOrder->adk,codeAny_call_builtin->adm,recursionLimit->adq,rawInt->adF,wpAny_callSpecial?_slot->adG,noteFrame->adH,assignEach->adT,entryFor->adU,sizeLine->adV,callSpecial?->adY,DictEntry->adZ,entryFor_of_tree->aef,spliced->aeg,wpAny_release->aek,starEach->ael,wpAny_load->aeq,Fin->aer,arm_eval_Call_Name'->aet,Result->aez,argsOk->aeA,FuncData->aeB,bm_if_true->aeJ,isInstance->aeK,wpAny_call->aeL,getMethod_builtin->aeM,foldedSetIterable->aeN,cellsFrom->aeO,swapsWith->aeP,plainId_quiet->aeX,wpAny_attempt->afa,wpAny_unpackItems_tuple->afb,comprehension->afc,unpackItems->afd,swapsWithSole->afe,excClassObj->aff,wpAny_call_entry->afj,compareOp->afq,codeAny_builtin->afr,setFlight->afs,dropValue->afu,ClassData->afv,builtinsNs->afC,headPart->afD,arm_assign_Attribute->afH,constantsAlone->afK,wpAny_seqItems->afL,wpAny_setField->afM,methodCallForm->afN,arm_execs_cons->afO,Keyword->afW,evalThenUse->afX,wpAny_standAt->agj,ExceptHandler->agk,binaryOp->agl,runOwn->agm,methodCallPos->agn,pyIter->ago,compEnvC->agp,FuncBody->agq,wpAny_truthy_bool->agz,wpAny_mono->agB,wpAny_lookBehind->agI,evalEach->agP,BoolOp->agU,isTrue->agV,truthy->agW,getItem->agY,newFields->agZ,isSubtype->aha,specialOf->ahb,typeOf->ahc,seqItems?->ahd,arm_exec_Assign->ahe,sizeLine_eq->ahh,wpAt_of_wpAny->aho,markedBehindIn->ahs,newFunctionEnv->aht,wpAny_loadPart->ahu,raisedInstance->ahv,backTo->ahK,markedEach->ahL,pyNext->ahM,isExcClass->ahN,Expr->ahV,checkTypeCall->ahY,Comprehension->ahZ,intKind->aia,valueAt->aib,operate->aic,setItem->aid,behindInMarks->aif,newList->aih,attributeBase->aii,callWith->aij,arm_eval_Call->aik,arm_exec_Expr->ail,wpAt_bind->aiC,getMethod->aiE,call_meetsIn->aiF,excFromValue->aiI,bootBuiltins->aiJ,arm_assign_Subscript->aiP,release->aiT,codeAny->ajc,unsupported->ajd,callAny->aje,setAttr->ajf,subscripted->ajg,wpAny_mkInt->ajh,valueOrNone->aji,wpAny_isSubtype_exc->ajj,classAt->ajk,arm_eval_Subscript->ajt,wpAny_Constant_str->ajv,TypeCalled->ajH,wpAny_Name->ajI,typeIs_int->ajJ,slot_list_getitem->ajK,wpAny_sequenceKey->ajL,fastTable_eq_tree->ajM,callMarked->ajO,methodCall->ajP,closureFor->ajQ,excMatches->ajR,wpAny_loadPart_at->ajS,wpAny_askSetting->akk,wpAny_comp_letGo->akl,wpAny_madeBy_exc->akm,pastItsLine_dict->akn
open _root_.Pure renaming pure->aak
open _root_.PySem.Heap renaming get?_push_of_some->aaF,get?_push_size->aaX,lt_size->abN,get?_update_self->abO,SameBut->acD,get?_update_other->adB,size_push->aiY,ExtBut->ake
open _root_.Int renaming natCast_nonneg->aaL,eq_ofNat_of_zero_le->abf,ofNat_le->abg,toNat_natCast->abk,not_lt->abI,le_trans->abX,le_of_lt->acg,ofNat_lt->acG,le_refl->acS,not_le->adf,add_zero->adn,fmod_nonneg_of_pos->adD,ne_of_gt->adK,lt_of_le_of_lt->aem,add_assoc->aeF,zero_add->aeV,lt_trans->aeW,toNat_of_nonneg->afp,add_sub_cancel->afE,lt_of_lt_of_le->afF,fmod_lt_of_pos->afG,toNat_le->agd,min_eq_left->agv,natCast_add->agx,ofNat->agy,add_nonneg->agG,toNat_sub->agQ,add_comm->ahn,sub_zero->ahr,add_le_add_right->ahx,le_of_lt_add_one->ahD,lt_add_one_of_le->ahH,sub_add_cancel->aiu,min_eq_right->aiK,toNat->aiS,ediv_nonneg->aiV,fdiv_nonneg->aja,add_le_add->ajr,toNat_lt->ajV,le_of_eq->ajX,ediv_one->akj
open _root_.List.Sublist renaming refl->aaM,append->abj,nodup->akh,map->aki
open _root_.PySem.Expr renaming casesOn->aaO,Name->agr
open _root_.List.Perm renaming swap->aaS,cons->aaU,append_left->adA,refl->ahA
open _root_.PySem.NameKind renaming noConfusion->abc,free->abB,cell->aen
open _root_.PySem.Value renaming none->abo,noConfusion->abL,casesOn->adS,ref->adW,isInt->ajz
open _root_.PySem.Stmt renaming Pass->abt,casesOn->afP
open _root_.PySem.Builtin.Range renaming rangeSize->abz,rangeFitsLong->adC,small->agi
open _root_.PySem.Builtin.Bytes renaming decodersThatHold->abA,exported->afJ,buffer?->afR,sameRef->ajw
open _root_.ForInStep renaming yield->abQ
open _root_.PySem.Challenge renaming rw_nz0219_03->acd,pw_nz0219_03->aiZ
open _root_.PyProof.Rows renaming step_dedup->acf,subscriptTail->aeZ,IntsAre->agX,isnot_none_ne->aie,is_none_ne->ajN,getItem_tuple->ajW,lt_int->aka,le_int->akb,gt_int->akc,ge_int->akd
open _root_.Ne renaming symm->acm
open _root_.PySem.MeetsSeq renaming plain_remove_loop->aco,entry_remove_loop->aeE
open _root_.PySem.W renaming typeIs_bytes->acv,emptyDict->ads,looks_findIn->aea,kms_lo->aeb,findIn->aes,looks_subIn->aeu,hideAll->aeG,kms_hi->aeR,instObj->aeY,takerIn->agA,keepIn->ahf,looks_clsIn->ahg,check_slot->ahJ,findCls->aim,hideAll_none->aiG,specialIn->aiH,plainGet->ajs,typeIn->aju
open _root_.PySem.Builtin renaming bitAnd->acx,bitNot->aee,bitOr->afk
open _root_.PySem.Heap.SameBut renaming update->acH
open _root_.PySem.Flow renaming next->acY
open _root_.PySem.Str renaming ofString->ada
open _root_.PySem.Around renaming under_plainId->adb
open _root_.PySem.Data renaming casesOn->adl,noConfusion->agb
open _root_.PySem.W.Looks renaming of_pure->adp,ld->aeh
open _root_.PySem.Code renaming builtin->adI,quiet_builtin->afw
open _root_.PySem.W.FB renaming slot_bytes_getitem->adM
open _root_.PySem.F renaming excBase_ValueError->adX,store_ValueError->aej,slot_list_remove->afT,slot_dict_delitem->agg,slot_dict_get->agF,args_object_init_2->aiq,bm_called->aiv,plainAttrs_list->aiU,entry_dict_get->ajp,slot_int_rmul->ajx,bm_bind->ajA
open _root_.Prod renaming fst->aei,snd->ahS
open _root_.PySem.Heap.IsSliceOf renaming new->aex
open _root_.PySem.Builtin.Int renaming intBits->aeD
open _root_.PySem.ExcName renaming means->afm
open _root_.PySem.SeqAt.EqAt renaming of_refs->afQ
open _root_.PySem.Builtin.List renaming listItems->afS,listFitsIndex->ajT,listTooLong->ajU,listUpdate->ajY
open _root_.PySem.W.WData renaming layableAll->afU
open _root_.PySem.Sem renaming wp_bind'->afY,wp_mono->agu,wp_stack->ahq,wp_pure->ahU,wp_holding->ajl
open _root_.PySem.Obj renaming mapBytearray->agh,mapSeq->agM,data_mapFields->ais,mapFields->ajC
open _root_.Array renaming getElem?_eq_some_iff->agt,replicate->aiw
open _root_.PySem.Within renaming cons->ahk
open _root_.PySem.Operator renaming casesOn->ahm
open _root_.PySem.FuncBody renaming casesOn->ahp
open _root_.String renaming splitOnAux->ahy,splitOn->aix
open _root_.PySem.Fin renaming done->ahC
open _root_.PySem.SeqAt renaming RcNeAt->ahI
open _root_.PySem.CmpOp renaming casesOn->aiQ
open _root_.And renaming intro->aiW
open _root_.PySem.IsiPair renaming int_int->ajB
open _root_.List.Pairwise renaming imp_of_mem->ajF
abbrev By:=List UInt8
abbrev Sh:=aaC->Prop
abbrev Vs:=List Value
noncomputable def codec:Code->Bool
 | .builtin id _=>abA.contains id
 |_=>false
def m5(l:List (Code×Pos)):Prop:=∀ x∈l,codec x.1=false
def ao{α:Type}(M:Model)(A:aaY)(t:Sem α)(Q:α->Sh)(E:Value->Sh)(s:aaC):Prop:=
 ∀ Γ p,Γ.In A->(codec Γ.code=false∧m5 Γ.below)->Sem.wp M Γ t (λa _ s'=>Q a s') (λe _ s'=>E e s') p s
def codeN(M:Model)(A:aaY)(c:Code)(R:aez->Sh)(s:aaC):Prop:=
 ∀ Γ p,Γ.code=c->Γ.Below A->m5 Γ.below->wpCode M Γ R p s
/-! what comes behind,in named parts -/
section
variable {α β:Type} (M:Model) (A:aaY) (E:Value->Sh)
abbrev cq(f:α->Sem β)(Q:β->Sh):α->Sh:=λa s=>wpAny M A (f a) Q E s
abbrev bZ(f:α->Sem β)(Q:β->Sh):α->Sh:=λa s=>ao M A (f a) Q E s
abbrev Ap(k:Value->Sem Unit):Value->Sh:=λe s=>ao M A (k e) (λ_ s=>E e s) E s
abbrev tF(Q:Value->Sh):aez->Sh:=λr s=>match r with | .ok (.ret v)=>Q v s | .ok _=>False | .error e=>E e s
abbrev Aq(Q:Flow->Sh):aez->Sh:=λr s=>match r with | .ok f=>Q f s | .error e=>E e s
end
section
variable {α β:Type} {M:Model} {A:aaY} {E:Value->Sh} {s:aaC}
theorem wpAny_bind{m:Sem α}{f:α->Sem β}{Q:β->Sh}(h:wpAny M A m (cq M A E f Q) E s):wpAny M A (m>>=f) Q E s:=aam h
theorem bt{t:Sem α}{Q:α->Sh}(h:wpAny M A t Q E s):ao M A t Q E s:=λΓ p hΓ _=>h Γ p hΓ
theorem pd{c:Code}{R:aez->Sh}(h:ajc M A c R s):codeN M A c R s:=λΓ p hc hΓ _=>h Γ p hc hΓ
theorem fH{t:Sem α}{Q Q':α->Sh}{E':Value->Sh}(h:ao M A t Q E s)(hQ:∀ a s,Q a s->Q' a s)(hE:∀ e s,E e s->E' e s):ao M A t Q' E' s:=
 λΓ p hΓ n=>agu M Γ t (λa _ s=>hQ a s) (λe _ s=>hE e s) p s (h Γ p hΓ n)
theorem aK{a:α}{Q:α->Sh}(h:Q a s):ao M A (pure a) Q E s:=bt (aai h)
theorem az{t:Sem α}{f:α->Sem β}{Q:β->Sh}(h:ao M A t (bZ M A E f Q) E s):ao M A (t>>=f) Q E s:=λΓ p hΓ n=>by
 rw[afY]
 exact agu M Γ t (λa p' s' h'=>h' Γ p' hΓ n) (λ_ _ _ h'=>h') p s (h Γ p hΓ n)
theorem aC{t:Sem α}{f:α->Sem β}{Q:β->Sh}(h:wpAny M A t (bZ M A E f Q) E s):ao M A (t>>=f) Q E s:=az (bt h)
theorem bN{vs:Vs}{t:Sem α}{Q:α->Sh}(h:ao M A t Q E s):ao M A (ace vs t) Q E s:=λΓ p hΓ n=>by
 rw[ajl];exact h Γ p hΓ n
theorem Ar{vs:Vs}{t:Sem α}{Q:α->Sh}(h:ao M A t Q E s):ao M A (t.keep vs) Q E s:=λΓ p hΓ n=>by
 rw[Sem.wp_keep];exact h Γ p hΓ n
theorem cV{pos:Pos}{f:Unit->Sem α}{Q:α->Sh}(h:ao M A (f ()) Q E s):ao M A (acr pos>>=f) Q E s:=aC (agj h)
theorem As{f:Unit->Sem α}{Q:α->Sh}(h:ao M A (f ()) Q E s):ao M A (point>>=f) Q E s:=aC (wpAny_point h)
theorem gG{t:Sem α}{k:Value->Sem Unit}{Q:α->Sh}(h:ao M A t Q (Ap M A E k) s):ao M A (t.onRaise k) Q E s:=λΓ p hΓ n=>by
 rw[Sem.wp_onRaise]
 exact agu M Γ t (λ_ _ _ h'=>h') (λe p' s' h'=>h' Γ p' hΓ n) p s (h Γ p hΓ n)
theorem tG{t:Sem α}{Q:Except Value α->Sh}(h:ao M A t (λa=>Q (.ok a)) (λe=>Q (.error e)) s):ao M A t.attempt Q E s:=λΓ p hΓ n=>by
 rw[Sem.wp_attempt];exact h Γ p hΓ n
theorem gc{c:Code}{R R':aez->Sh}(h:codeN M A c R s)(hR:∀ r s,R r s->R' r s):codeN M A c R' s:=λΓ p hc hΓ n=>wpCode_mono hR (h Γ p hc hΓ n)
theorem pe{c:Code}{h:Option Value}{Q:Flow->Sh}(hc:codeN M (A.mark h) c (Aq E Q) s)(hnb:h≠some byPass):
  ao M A (run c h) Q E s:=λΓ p hΓ n=>by
 rw[Sem.wp_run]
 refine hc _ p rfl (hΓ.enter c h p hnb) λx hx=>?_
 cases hx with
 |head=>exact n.1
 |tail _ hx=>exact n.2 x hx
theorem Au{c:Code}{Q:Value->Sh}(hc:codeN M A c (tF E Q) s):ao M A (runValue c) Q E s:=λΓ p hΓ n=>by
 rw[Sem.wp_runValue]
 refine hc _ p rfl (hΓ.enter c none p (by intro x;contradiction)) λx hx=>?_
 cases hx with
 |head=>exact n.1
 |tail _ hx=>exact n.2 x hx
theorem fP{f:Value}{pos:Vs}{kw:List (Str×Value)}{Q:Value->Sh}(hc:codeN M A (.call f ⟨pos,kw⟩) (tF E Q) s):
  ao M A (call f pos kw) Q E s:=Au hc
theorem fy{c:Code}{R:aez->Sh}(h:ao M (A.under c) (M.den c) (λfin s'=>match fin with | .done f=>R (.ok f) s' | .again c'=>c'.quiet=true∧codeN M A c' R s') (λe s'=>R (.error e) s') s)
  (hc:codec c=false):codeN M A c R s:=λΓ p e hΓ n=>by
 rw[wpCode_iff_wp,e]
 refine agu M Γ _ (λfin p' s' h'=>?_) (λ_ _ _ h'=>h') p s (h Γ p (e▸hΓ.in) ⟨e▸hc,n⟩)
 cases fin with
 |done f=>exact h'
 |again c'=>exact⟨h'.1,h'.2 (Γ.goto c') p' rfl (hΓ.goto c') n⟩
theorem Av{f:Code×Pos->Bool}(hf:∀ c q,c.isGuard=false->codec c=false->f (c,q)=false){l:List (Code×Pos)}(hl:guardsOf l=[])(hn:m5 l):l.any f=false:=by
 rw[afI]
 intro x hx
 obtain⟨c,q⟩:=x
 have h1:c.isGuard=false:=by
  cases hgd:c.isGuard with
  |false=>rfl
  |true=>
   have:c∈guardsOf l:=by
    unfold guardsOf
    exact aeQ.mpr ⟨aau.mpr ⟨_,hx,rfl⟩,hgd⟩
   rw[hl]at this;cases this
 rw[hf c q h1 (hn _ hx)]
 exact abe
theorem Aw{self:Value}{Q:Bool->Sh}(hg:A.guards=some [])(h:Q false s):ao M A (afJ self) Q E s:=λΓ p hΓ n=>by
 show Q (List.any ((Γ.code,p)::Γ.below) _) s
 rw[Av ?_ (by rw[guardsOf_cons];exact hΓ.2.2.2.1 _ hg) λx hx=>by
  cases hx with
  |head=>exact n.1
  |tail _ hx=>exact n.2 x hx]
 ·exact h
 ·intro c q h1 h2
  cases c with
  |builtin id args=>
   have h3:guardIds.contains id=false:=h1
   have h4:abA.contains id=false:=h2
   have ne:∀ y,guardIds.contains y=true->id≠y:=λy hy e=>by rw[e,hy]at h3;contradiction
   delta afJ.match_1
   refine(dif_neg (ne "bytearray.__contains__" (by decide))).trans ?_
   refine(dif_neg (ne "bytearray.__mod__" (by decide))).trans ?_
   refine(dif_neg (ne "bytearray.__rmod__" (by decide))).trans ?_
   refine(dif_neg (ne "_struct.pack_into.held" (by decide))).trans ?_
   refine(dif_neg (ne "bytearray.find.held" (by decide))).trans ?_
   obtain⟨ps,kw⟩:=args
   cases ps with
   |nil=>rfl
   |cons v r=>exact(congrArg (ajw v self&&·) h4).trans (agC _)
  |_=>rfl
theorem dc{c:Bool}{a b:Sem α}{Q:α->Sh}(hc:c=false)(h:ao M A b Q E s):ao M A (if c=true then a else b) Q E s:=by
 subst hc;exact h
theorem j7{c:Bool}{a b:Sem α}{Q:α->Sh}(hc:c=true)(h:ao M A a Q E s):ao M A (if c=true then a else b) Q E s:=by
 subst hc;exact h
end
section
variable {prog:acI} {w:World} {A:aaY} {E:Value->Sh} {s:aaC}
theorem pf{id:String}{args:Args}{b:aaD}{R:aez->Sh}(hb:adU table id=some b)(hd:abA.contains id=false)
  (h:ao (model prog w) (A.under (.builtin id args)) (b args) (λfin s'=>match fin with | .done f=>R (.ok f) s' | .again c'=>c'.quiet=true∧codeN (model prog w) A c' R s') (λe s'=>R (.error e) s') s):
  codeN (model prog w) A (.builtin id args) R s:=by
 refine fy ?_ hd
 show ao _ _ (match adU table id with |some b=>b args |none=>ajd ((withoutEnding? id "#data").getD id)) _ _ s
 rw[hb];exact h
theorem pg{id:String}{args:Args}{b:aaD}{R:aez->Sh}(hq:plainId id=true)(hb:adU table id=some b)(hd:abA.contains id=false)
  (h:ao (model prog w) A.in1 (abS id args) (λ_ s₁=>ao (model prog w) A.in1 (b args)
   (λfin s'=>match fin with | .done f=>R (.ok f) s' | .again c'=>c'.quiet=true∧codeN (model prog w) A c' R s') (λe s'=>R (.error e) s') s₁) (λe s'=>R (.error e) s') s):
  codeN (model prog w) A (.call (.builtin id) args) R s:=by
 refine fy ?_ rfl
 show ao _ A.in1 (do abS id args;again (.builtin id args)) _ _ s
 refine az (fH h (λ_ s₁ h₁=>aK ⟨aeX hq args,pf hb hd ?_⟩) λ_ _ h'=>h')
 rw[adb hq args];exact h₁
theorem tH{T newId initId:String}{Bi:aaD}{args:Vs}{Q Q₁:Value->Sh}(ft:ajH T newId initId)
  (hct:ahY T ⟨args,[]⟩=pure ()) (entryI:adU table initId=some Bi) (hd:abA.contains initId=false)
  (hnew:codeN (model prog w) A.in1 (.call (.builtin newId) ⟨.type T::args,[]⟩) (wants Q₁ E) s)
  (hnext:∀ obj s₁,Q₁ obj s₁->s₁.TypeIs obj T∧aeA initId ⟨obj::args,[]⟩∧
   ao (model prog w) A.in1.in1 (Bi ⟨obj::args,[]⟩)
    (λfin s'=>match fin with | .done f=>wants (λr s₂=>r=.none∧Q obj s₂) E (.ok f) s' | .again c'=>c'.quiet=true∧codeN (model prog w) A.in1 c' (wants (λr s₂=>r=.none∧Q obj s₂) E) s')
    (λe s'=>wants (λr s₂=>r=.none∧Q obj s₂) E (.error e) s') s₁):
  ao (model prog w) A (aal (.type T) args) Q E s:=by
 obtain⟨c,tl,hmro⟩:=ft.mro
 refine fP (fy ?_ rfl)
 show ao _ _ (aje (.type T) _) _ _ _
 refine aK ⟨afw _ (by decide+kernel),pf F.entry_type_call (by decide+kernel) ?_⟩
 rw[aaY.under_plain (weight_type_call_type T args []) rfl]
 unfold aaD.«type.__call__»
 dsimp only
 refine dc ft.notType ?_
 refine dc ft.canCreate ?_
 refine aC (aaB hct ?_)
 refine aC (aaB hmro ?_)
 refine dc rfl ?_
 refine aC (aaB ft.made ?_)
 refine aC (aai ?_)
 refine az (bN (fP (gc hnew λr s₁ hr=>?_)))
 cases r with
 |error e=>exact hr
 |ok fl=>
  cases fl with
  |ret obj=>
   obtain⟨hT,hok,hsi⟩:=hnext _ _ hr
   refine aC (acJ hT ft.sub ?_)
   refine dc rfl ?_
   refine az (bN ?_)
   unfold adY
   refine aC (aaN hT ft.init.lookup ?_)
   dsimp only
   refine bN ?_
   rw[ft.init.bind obj]
   refine aC (aai (az (fP (gc (pg ft.init.plain entryI hd (bt (ft.init.check _ _ _ _ _ _ _ _ hT hok hsi))) λr₂ s₂ hr₂=>?_))))
   cases r₂ with
   |error e=>exact hr₂
   |ok fl2=>
    cases fl2 with
    |ret r=>
     obtain⟨rfl,hq⟩:=hr₂
     refine aK ?_
     refine dc rfl ?_
     exact aK hq
    |_=>exact hr₂.elim
  |_=>exact hr.elim
theorem Ax{T id:String}{name:Str}{B:aaD}{self:Value}{args:Vs}{Q:Option Value->Sh}(hT:s.TypeIs self T)(slot:Slot T name id)(entry:adU table id=some B)
  (hd:abA.contains id=false) (hok:aeA id ⟨self::args,[]⟩)
  (h:ao (model prog w) A.in1 (B ⟨self::args,[]⟩) (λfin s'=>∃ v,fin=.done (.ret v)∧Q (some v) s') E s):ao (model prog w) A (adY self name args) Q E s:=by
 unfold adY
 refine aC (aaN hT slot.lookup ?_)
 dsimp only
 refine bN ?_
 rw[slot.bind self]
 refine aC (aai (az (fP (pg slot.plain entry hd (bt (slot.check _ _ _ _ _ _ _ _ hT hok (fH h (λfin s' ⟨v,e,q⟩=>?_) λ_ _ e=>e)))))))
 subst e
 exact aK q
end
universe u v w x y z
structure aO(a b c:Prop):Prop where
 intro::
 p1:a
 p2:b
 p3:c
structure cB(a b c d:Prop):Prop where
 intro::
 p1:a
 p2:b
 p3:c
 p4:d
structure gd(a b c d e:Prop):Prop where
 intro::
 p1:a
 p2:b
 p3:c
 p4:d
 p5:e
structure lq(a b c d e f:Prop):Prop where
 intro::
 p1:a
 p2:b
 p3:c
 p4:d
 p5:e
 p6:f
structure j8(a b c d e f g h:Prop):Prop where
 intro::
 p1:a
 p2:b
 p3:c
 p4:d
 p5:e
 p6:f
 p7:g
 p8:h
inductive bT{α:Sort u}{β:Sort v}(p:α->β->Prop):Prop
 |intro (a:α) (b:β) (h:p a b):bT p
inductive cW{α:Sort u}{β:Sort v}{γ:Sort w}(p:α->β->γ->Prop):Prop
 |intro (a:α) (b:β) (c:γ) (h:p a b c):cW p
inductive d9{α:Sort u}{β:Sort v}{γ:Sort w}{δ:Sort x}(p:α->β->γ->δ->Prop):Prop
 |intro (a:α) (b:β) (c:γ) (d:δ) (h:p a b c d):d9 p
inductive gf{α:Sort u}{β:Sort v}{γ:Sort w}{δ:Sort x}{ε:Sort y}(p:α->β->γ->δ->ε->Prop):Prop
 |intro (a:α) (b:β) (c:γ) (d:δ) (e:ε) (h:p a b c d e):gf p
inductive iH{α:Sort u}{β:Sort v}{γ:Sort w}{δ:Sort x}{ε:Sort y}{ζ:Sort z}(p:α->β->γ->δ->ε->ζ->Prop):Prop
 |intro (a:α) (b:β) (c:γ) (d:δ) (e:ε) (f:ζ) (h:p a b c d e f):iH p
theorem bT.of{α:Sort u}{β:Sort v}{p:α->β->Prop}(h:Exists λa=>Exists λb=>p a b):bT p:=match h with
 | ⟨a,b,h⟩=>⟨a,b,h⟩
set_option genCtorIdx true in
inductive V where
 |none |bool (b:Bool) |int (i:Int) |str (k:Nat) |bytes (b:By)
 |ref (a:Nat) |ah (a:Addr) |ty (n:String) |bi (id:String) |ints (l:List Int)
abbrev Lo:=List (Option V)
set_option genCtorIdx true in
inductive O where
 |list (xs:List V) |tuple (xs:List V) |dict (es:List (Int×V)) |j9 (n:Nat) |inst (c:Addr) (fs:List (Nat×V))
 |bG (b:By) |cell (v:Option V)
 |range (a b c:Int)
abbrev Hp:=List O
abbrev Qh:=V->Hp->Prop
abbrev Xp:=Addr->Hp->Prop
structure St where
 lo:Lo
 H:Hp
abbrev Sp:=St->Prop
set_option genCtorIdx true in
inductive R(α:Type) where
 |ok (a:α) (s:St) |exc (c:Addr) (s:St) |no
inductive CR where
 |ok (v:V) (H:Hp) |exc (c:Addr) (H:Hp) |no
abbrev Ct:=V->List V->Hp->CR
def M(α:Type):=St->R α
noncomputable def M.bind {α β:Type} (m:M α) (f:α->M β):M β:=λs=>match m s with
 | .ok a s'=>f a s'
 | .exc c s'=>.exc c s'
 | .no=>.no
noncomputable instance:Monad M where
 pure a:=λs=>.ok a s
 bind:=M.bind
noncomputable def no {α:Type}:M α:=λ_=>.no
noncomputable def raise {α:Type} (c:Addr):M α:=λs=>.exc c s
noncomputable def heap:M Hp:=λs=>.ok s.H s
noncomputable def alloc (o:O):M V:=λs=>.ok (.ref s.H.length) {s with H:=s.H++[o]}
noncomputable def obj (a:Nat):M O:=λs=>match s.H[a]? with |some o=>.ok o s |none=>.no
noncomputable def put (a:Nat) (o:O):M Unit:=λs=>.ok () {s with H:=s.H.set a o}
def aG{α:Type}:Option α->M α
 |some a=>pure a
 |none=>no
noncomputable def calm {α:Type} (m:M α):M α:=λs=>match m s with
 | .exc _ _=>.no
 |r=>r
def guard(b:Bool):M Unit:=if b then pure ()else no
noncomputable def dy {α:Type} (f:O->Option α) (a:Nat):M α:=λs=>match s.H[a]?.bind f with |some x=>.ok x s |none=>.no
noncomputable def jj (v:O):Option (List V):=O.casesOn (motive:=λ_=>Option (List V)) v some (λ_=>none) (λ_=>none) (λ_=>none) (λ_ _=>none) (λ_=>none) (λ_=>none) (λ_ _ _=>none)
noncomputable def oTup (v:O):Option (List V):=O.casesOn (motive:=λ_=>Option (List V)) v (λ_=>none) some (λ_=>none) (λ_=>none) (λ_ _=>none) (λ_=>none) (λ_=>none) (λ_ _ _=>none)
noncomputable def ph (v:O):Option (List (Int×V)):=O.casesOn (motive:=λ_=>Option (List (Int×V))) v (λ_=>none) (λ_=>none) some (λ_=>none) (λ_ _=>none) (λ_=>none) (λ_=>none) (λ_ _ _=>none)
noncomputable def pj (v:O):Option By:=O.casesOn (motive:=λ_=>Option By) v (λ_=>none) (λ_=>none) (λ_=>none) (λ_=>none) (λ_ _=>none) some (λ_=>none) (λ_ _ _=>none)
noncomputable def lr (v:O):Option (Addr×List (Nat×V)):=O.casesOn (motive:=λ_=>Option (Addr×List (Nat×V))) v (λ_=>none) (λ_=>none) (λ_=>none) (λ_=>none) (λc fs=>some (c,fs)) (λ_=>none) (λ_=>none) (λ_ _ _=>none)
noncomputable def oCell (v:O):Option (Option V):=O.casesOn (motive:=λ_=>Option (Option V)) v (λ_=>none) (λ_=>none) (λ_=>none) (λ_=>none) (λ_ _=>none) (λ_=>none) some (λ_ _ _=>none)
noncomputable def jk (v:V):Option (Int):=V.casesOn (motive:=λ_=>Option (Int)) v none (λ_=>none) some (λ_=>none) (λ_=>none) (λ_=>none) (λ_=>none) (λ_=>none) (λ_=>none) (λ_=>none)
def aX(v:V):M Int:=aG (jk v)
noncomputable def lu (v:V):Option (Bool):=V.casesOn (motive:=λ_=>Option (Bool)) v none some (λ_=>none) (λ_=>none) (λ_=>none) (λ_=>none) (λ_=>none) (λ_=>none) (λ_=>none) (λ_=>none)
def gh(v:V):M Bool:=aG (lu v)
noncomputable def jl (v:V):Option (Nat):=V.casesOn (motive:=λ_=>Option (Nat)) v none (λ_=>none) (λ_=>none) (λ_=>none) (λ_=>none) some (λ_=>none) (λ_=>none) (λ_=>none) (λ_=>none)
def bx(v:V):M Nat:=aG (jl v)
noncomputable def lx (v:V):Option By:=V.casesOn (motive:=λ_=>Option By) v none (λ_=>none) (λ_=>none) (λ_=>none) some (λ_=>none) (λ_=>none) (λ_=>none) (λ_=>none) (λ_=>none)
def eZ(v:V):M By:=aG (lx v)
noncomputable def pk (v:V):Option (Addr):=V.casesOn (motive:=λ_=>Option (Addr)) v none (λ_=>none) (λ_=>none) (λ_=>none) (λ_=>none) (λ_=>none) some (λ_=>none) (λ_=>none) (λ_=>none)
def pn(v:V):M Addr:=aG (pk v)
noncomputable def toS (v:V):Option (Nat):=V.casesOn (motive:=λ_=>Option (Nat)) v none (λ_=>none) (λ_=>none) some (λ_=>none) (λ_=>none) (λ_=>none) (λ_=>none) (λ_=>none) (λ_=>none)
noncomputable def toT (v:V):Option (String):=V.casesOn (motive:=λ_=>Option (String)) v none (λ_=>none) (λ_=>none) (λ_=>none) (λ_=>none) (λ_=>none) (λ_=>none) some (λ_=>none) (λ_=>none)
def m6(v:V):M String:=aG (toT v)
noncomputable def toN (v:V):Option Unit:=V.casesOn (motive:=λ_=>Option Unit) v (some ()) (λ_=>none) (λ_=>none) (λ_=>none) (λ_=>none) (λ_=>none) (λ_=>none) (λ_=>none) (λ_=>none) (λ_=>none)
def pq(v:V):M Unit:=aG (toN v)
def bV(a:Nat):M (List V):=dy jj a
def iI(a:Nat):M (List V):=dy oTup a
def dictAt(a:Nat):M (List (Int×V)):=dy ph a
def iJ(a:Nat):M By:=dy pj a
def gH(a:Nat):M (Addr×List (Nat×V)):=dy lr a
noncomputable def isRef (b:Nat) (v:V):Bool:=V.casesOn (motive:=λ_=>Bool) v false (λ_=>false) (λ_=>false) (λ_=>false) (λ_=>false) (λa=>a==b) (λ_=>false) (λ_=>false) (λ_=>false) (λ_=>false)
noncomputable def pv (n:String) (v:V):Bool:=V.casesOn (motive:=λ_=>Bool) v false (λ_=>false) (λ_=>false) (λ_=>false) (λ_=>false) (λ_=>false) (λ_=>false) (λa=>a==n) (λ_=>false) (λ_=>false)
/-! what an expression looks like -/
inductive Tg where
 |name (x:Str) (p:Pos) |attr (o:Expr) (a:Str) (p:Pos) |sub (o i:Expr) |tup (ts:List Expr) |other
noncomputable def gi (e:Expr):Tg:=aaO (motive_1:=λ_=>Tg) e (λx0 x1 x2=>.other) (λx0 x1 x2=>.other) (λx0 x1 x2 x3=>.other) (λx0 x1 x2=>.other) (λx0 x1 x2 x3=>.other) (λx0 x1 x2 x3=>.other) (λx0 x1 x2=>.other) (λx0 x1 x2=>.other) (λx0 x1 x2 x3=>.other) (λx0 x1 x2 x3=>.other) (λx0 x1 x2 x3 x4=>.other) (λx0 x1 x2 x3=>.other) (λx0 x1=>.other) (λx0 x1=>.other) (λx0 x1=>.other) (λx0 x1 x2 x3=>.other) (λx0 x1 x2 x3=>.other) (λx0 x1 x2 x3=>.other) (λx0 x1=>.other) (λx0 x1 x2=>.other) (λo a p=>.attr o a p) (λo i p=>.sub o i) (λx0 x1=>.other) (λx p=>.name x p) (λx0 x1=>.other) (λts k p=>.tup ts) (λx0 x1 x2 x3=>.other)
theorem ly{motive:Expr->Tg->Prop}(h1:∀ x p,motive (.Name x p) (.name x p))(h2:∀ o a p,motive (.Attribute o a p) (.attr o a p))(h3:∀ o i p,motive (.Subscript o i p) (.sub o i))(h4:∀ ts k p,motive (.Tuple ts k p) (.tup ts))(h5:∀ t,motive t .other)(t:Expr):motive t (gi t):=aaO (motive_1:=λt=>motive t (gi t)) t (λx0 x1 x2=>h5 _) (λx0 x1 x2=>h5 _) (λx0 x1 x2 x3=>h5 _) (λx0 x1 x2=>h5 _) (λx0 x1 x2 x3=>h5 _) (λx0 x1 x2 x3=>h5 _) (λx0 x1 x2=>h5 _) (λx0 x1 x2=>h5 _) (λx0 x1 x2 x3=>h5 _) (λx0 x1 x2 x3=>h5 _) (λx0 x1 x2 x3 x4=>h5 _) (λx0 x1 x2 x3=>h5 _) (λx0 x1=>h5 _) (λx0 x1=>h5 _) (λx0 x1=>h5 _) (λx0 x1 x2 x3=>h5 _) (λx0 x1 x2 x3=>h5 _) (λx0 x1 x2 x3=>h5 _) (λx0 x1=>h5 _) (λx0 x1 x2=>h5 _) (λo a p=>h2 o a p) (λo i p=>h3 o i p) (λx0 x1=>h5 _) (λx p=>h1 x p) (λx0 x1=>h5 _) (λts k p=>h4 ts k p) (λx0 x1 x2 x3=>h5 _)
noncomputable def m7 (e:Expr):Option (Option Expr×Option Expr×Option Expr):=aaO (motive_1:=λ_=>Option (Option Expr×Option Expr×Option Expr)) e (λ_ _ _=>none) (λ_ _ _=>none) (λ_ _ _ _=>none) (λ_ _ _=>none) (λ_ _ _ _=>none) (λ_ _ _ _=>none) (λ_ _ _=>none) (λ_ _ _=>none) (λ_ _ _ _=>none) (λ_ _ _ _=>none) (λ_ _ _ _ _=>none) (λ_ _ _ _=>none) (λ_ _=>none) (λ_ _=>none) (λ_ _=>none) (λ_ _ _ _=>none) (λ_ _ _ _=>none) (λ_ _ _ _=>none) (λ_ _=>none) (λ_ _ _=>none) (λ_ _ _=>none) (λ_ _ _=>none) (λ_ _=>none) (λ_ _=>none) (λ_ _=>none) (λ_ _ _=>none) (λa b c p=>some (a,b,c))
theorem tI{motive:Expr->Option (Option Expr×Option Expr×Option Expr)->Prop}(h1:∀ a b c p,motive (.Slice a b c p) (some (a,b,c)))(h2:∀ t,(t.ctorIdx==26)=false->motive t none)(t:Expr):motive t (m7 t):=aaO (motive_1:=λt=>motive t (m7 t)) t (λx0 x1 x2=>h2 _ rfl) (λx0 x1 x2=>h2 _ rfl) (λx0 x1 x2 x3=>h2 _ rfl) (λx0 x1 x2=>h2 _ rfl) (λx0 x1 x2 x3=>h2 _ rfl) (λx0 x1 x2 x3=>h2 _ rfl) (λx0 x1 x2=>h2 _ rfl) (λx0 x1 x2=>h2 _ rfl) (λx0 x1 x2 x3=>h2 _ rfl) (λx0 x1 x2 x3=>h2 _ rfl) (λx0 x1 x2 x3 x4=>h2 _ rfl) (λx0 x1 x2 x3=>h2 _ rfl) (λx0 x1=>h2 _ rfl) (λx0 x1=>h2 _ rfl) (λx0 x1=>h2 _ rfl) (λx0 x1 x2 x3=>h2 _ rfl) (λx0 x1 x2 x3=>h2 _ rfl) (λx0 x1 x2 x3=>h2 _ rfl) (λx0 x1=>h2 _ rfl) (λx0 x1 x2=>h2 _ rfl) (λx0 x1 x2=>h2 _ rfl) (λx0 x1 x2=>h2 _ rfl) (λx0 x1=>h2 _ rfl) (λx0 x1=>h2 _ rfl) (λx0 x1=>h2 _ rfl) (λx0 x1 x2=>h2 _ rfl) (λa b c p=>h1 a b c p)
noncomputable def kb (e:Expr):Option (Expr×List Expr×List afW):=aaO (motive_1:=λ_=>Option (Expr×List Expr×List afW)) e (λ_ _ _=>none) (λ_ _ _=>none) (λ_ _ _ _=>none) (λ_ _ _=>none) (λ_ _ _ _=>none) (λ_ _ _ _=>none) (λ_ _ _=>none) (λ_ _ _=>none) (λ_ _ _ _=>none) (λ_ _ _ _=>none) (λ_ _ _ _ _=>none) (λ_ _ _ _=>none) (λ_ _=>none) (λ_ _=>none) (λ_ _=>none) (λ_ _ _ _=>none) (λf as ks p=>some (f,as,ks)) (λ_ _ _ _=>none) (λ_ _=>none) (λ_ _ _=>none) (λ_ _ _=>none) (λ_ _ _=>none) (λ_ _=>none) (λ_ _=>none) (λ_ _=>none) (λ_ _ _=>none) (λ_ _ _ _=>none)
theorem Ay{motive:Expr->Option (Expr×List Expr×List afW)->Prop}(h1:∀ f as ks p,motive (.Call f as ks p) (some (f,as,ks)))(h2:∀ t,motive t none)(t:Expr):motive t (kb t):=aaO (motive_1:=λt=>motive t (kb t)) t (λx0 x1 x2=>h2 _) (λx0 x1 x2=>h2 _) (λx0 x1 x2 x3=>h2 _) (λx0 x1 x2=>h2 _) (λx0 x1 x2 x3=>h2 _) (λx0 x1 x2 x3=>h2 _) (λx0 x1 x2=>h2 _) (λx0 x1 x2=>h2 _) (λx0 x1 x2 x3=>h2 _) (λx0 x1 x2 x3=>h2 _) (λx0 x1 x2 x3 x4=>h2 _) (λx0 x1 x2 x3=>h2 _) (λx0 x1=>h2 _) (λx0 x1=>h2 _) (λx0 x1=>h2 _) (λx0 x1 x2 x3=>h2 _) (λf as ks p=>h1 f as ks p) (λx0 x1 x2 x3=>h2 _) (λx0 x1=>h2 _) (λx0 x1 x2=>h2 _) (λx0 x1 x2=>h2 _) (λx0 x1 x2=>h2 _) (λx0 x1=>h2 _) (λx0 x1=>h2 _) (λx0 x1=>h2 _) (λx0 x1 x2=>h2 _) (λx0 x1 x2 x3=>h2 _)
noncomputable def tJ:Tg->Option Str
 | .name x _=>some x
 |_=>none
def kc(e:Expr):Option Str:=tJ (gi e)
noncomputable def tK:Tg->Option (Expr×Expr)
 | .sub o i=>some (o,i)
 |_=>none
def tL(e:Expr):Option (Expr×Expr):=tK (gi e)
noncomputable def m8:List Expr->Option Expr
 | []=>none
 |e::r=>if r.isEmpty then some e else none
theorem px{l:List Expr}{e:Expr}(h:m8 l=some e):l=[e]:=by
 cases l with
 |nil=>contradiction
 |cons a r=>cases r with
  |nil=>exact congrArg (λx=>[x]) (aae.inj h)
  |cons _ _=>contradiction
theorem pz{e:Expr}{x:Str}:kc e=some x->∃ p,e=.Name x p:=
 ly (motive:=λe w=>tJ w=some x->∃ p,e=.Name x p) (λy p h=>⟨p,congrArg (λz=>agr z p) (aae.inj h)⟩) (λ_ _ _ h=>nomatch h) (λ_ _ _ h=>nomatch h) (λ_ _ _ h=>nomatch h) (λ_ h=>nomatch h) e
theorem Az{e:Expr}{x:Expr×Expr}:tL e=some x->∃ p,e=.Subscript x.1 x.2 p:=
 ly (motive:=λe w=>tK w=some x->∃ p,e=.Subscript x.1 x.2 p) (λ_ _ h=>nomatch h) (λ_ _ _ h=>nomatch h) (λo i p h=>⟨p,congrArg (λz:Expr×Expr=>Expr.Subscript z.1 z.2 p) (aae.inj h)⟩) (λ_ _ _ h=>nomatch h) (λ_ h=>nomatch h) e
theorem pA{e:Expr}{x:Expr×List Expr×List afW}:kb e=some x->∃ p,e=.Call x.1 x.2.1 x.2.2 p:=
 Ay (motive:=λe w=>w=some x->∃ p,e=.Call x.1 x.2.1 x.2.2 p) (λf as ks p h=>⟨p,congrArg (λz:Expr×List Expr×List afW=>Expr.Call z.1 z.2.1 z.2.2 p) (aae.inj h)⟩) (λ_ h=>nomatch h) e
inductive Te where
 |not (x:Expr) |bool (op:agU) (vs:List Expr) |cmp (l:Expr) (ops:List CmpOp) (rs:List Expr) |pB |other
noncomputable def pC (e:Expr):Te:=aaO (motive_1:=λ_=>Te) e (λop vs p=>.bool op vs) (λx0 x1 x2=>.other) (λx0 x1 x2 x3=>.other) (λop x p=>if op.ctorIdx=1 then .not x else .other) (λx0 x1 x2 x3=>.other) (λa b c d=>.pB) (λx0 x1 x2=>.other) (λx0 x1 x2=>.other) (λx0 x1 x2 x3=>.other) (λx0 x1 x2 x3=>.other) (λx0 x1 x2 x3 x4=>.other) (λx0 x1 x2 x3=>.other) (λx0 x1=>.other) (λx0 x1=>.other) (λx0 x1=>.other) (λl ops rs p=>.cmp l ops rs) (λx0 x1 x2 x3=>.other) (λx0 x1 x2 x3=>.other) (λx0 x1=>.other) (λx0 x1 x2=>.other) (λx0 x1 x2=>.other) (λx0 x1 x2=>.other) (λx0 x1=>.other) (λx0 x1=>.other) (λx0 x1=>.other) (λx0 x1 x2=>.other) (λx0 x1 x2 x3=>.other)
theorem AA{motive:Expr->Te->Prop}(h1:∀ x p,motive (.UnaryOp .Not x p) (.not x))(h2:∀ op vs p,motive (.BoolOp op vs p) (.bool op vs))(h3:∀ l ops rs p,motive (.Compare l ops rs p) (.cmp l ops rs))(h4:∀ a b c p,motive (.IfExp a b c p) .pB)
  (h5:∀ e,(∀ env w,agV e env w=(do let v<-w;acr e.pos;ace [v] (agW v)))->motive e .other) (e:Expr):motive e (pC e):=aaO (motive_1:=λe=>motive e (pC e)) e (λop vs p=>h2 op vs p) (λx0 x1 x2=>h5 _ λ_ _=>rfl) (λx0 x1 x2 x3=>h5 _ λ_ _=>rfl) (λop x p=>by cases op<;>first |exact h1 x p |exact h5 _ λ_ _=>rfl) (λx0 x1 x2 x3=>h5 _ λ_ _=>rfl) (λa b c p=>h4 a b c p) (λx0 x1 x2=>h5 _ λ_ _=>rfl) (λx0 x1 x2=>h5 _ λ_ _=>rfl) (λx0 x1 x2 x3=>h5 _ λ_ _=>rfl) (λx0 x1 x2 x3=>h5 _ λ_ _=>rfl) (λx0 x1 x2 x3 x4=>h5 _ λ_ _=>rfl) (λx0 x1 x2 x3=>h5 _ λ_ _=>rfl) (λx0 x1=>h5 _ λ_ _=>rfl) (λx0 x1=>h5 _ λ_ _=>rfl) (λx0 x1=>h5 _ λ_ _=>rfl) (λl ops rs p=>h3 l ops rs p) (λx0 x1 x2 x3=>h5 _ λ_ _=>rfl) (λx0 x1 x2 x3=>h5 _ λ_ _=>rfl) (λx0 x1=>h5 _ λ_ _=>rfl) (λx0 x1 x2=>h5 _ λ_ _=>rfl) (λx0 x1 x2=>h5 _ λ_ _=>rfl) (λx0 x1 x2=>h5 _ λ_ _=>rfl) (λx0 x1=>h5 _ λ_ _=>rfl) (λx0 x1=>h5 _ λ_ _=>rfl) (λx0 x1=>h5 _ λ_ _=>rfl) (λx0 x1 x2=>h5 _ λ_ _=>rfl) (λx0 x1 x2 x3=>h5 _ λ_ _=>rfl)
structure Fn where
 params:List Str
 lz:Bool
 scope:Scope
 body:List Stmt
structure a9 where
 T:List Str
 G:List (Str×V)
 fn:Addr->Option Fn
 cls:List (Addr×Addr)
 e7:List ((Addr×Nat)×Addr)
 cD:List (Addr×Nat)
 eqs:List Addr
 bO:Addr
inductive Ref where
 |loc (i:Nat) |cx (i:Nat) |glob |bad
noncomputable def de (sc:Scope) (x:Str):Ref:=
 match sc.names.findIdx? (λp=>p.1==x)with
 |none=>.bad
 |some i=>match sc.names[i]? with
  |some (_,.local)=>.loc i
  |some (_,.cell)=>.cx i
  |some (_,.free)=>.cx i
  |some (_,.globalImplicit)=>.glob
  |_=>.bad
noncomputable def ae (i:Nat):M V:=λs=>match s.lo[i]? with |some (some v)=>.ok v s |_=>.no
noncomputable def aD (i:Nat) (v:V):M Unit:=λs=>.ok () {s with lo:=s.lo.set i (some v)}
def gI(i:Nat)(s:St):Option (Nat×Option V):=(s.lo[i]?.join.bind jl).bind λc=>(s.H[c]?.bind oCell).map λv=>(c,v)
def dM(i:Nat):M V:=λs=>match (gI i s).bind (·.2)with
 |some v=>.ok v s
 |none=>.no
def lA(i:Nat)(v:V):M Unit:=λs=>match gI i s with
 |some c=>.ok () {s with H:=s.H.set c.1 (.cell (some v))}
 |none=>.no
section
variable (P:a9)
noncomputable def fQ (x:Str):Option Nat:=P.T.findIdx? (·==x)
def name(sc:Scope)(x:Str):M V:=match de sc x with
 | .loc i=>ae i
 | .cx i=>dM i
 | .glob=>aG (P.G.lookup x)
 | .bad=>no
def store(sc:Scope)(x:Str)(v:V):M Unit:=match de sc x with
 | .loc i=>aD i v
 | .cx i=>lA i v
 |_=>no
def const(c:Const):M V:=Const.casesOn (motive:=λ_=>M V) c (pure .none) (λb=>pure (.bool b)) (λi=>pure (.int i)) (λx0=>no) (λx0 x1=>no) (λx=>aG (fQ P x)>>=λk=>pure (.str k)) (λb=>pure (.bytes b)) no
noncomputable def lim:Nat:=2 ^ 20
def pD(op:abZ)(a b:Int):M V:=ahm (motive:=λ_=>M V) op (pure (.int (a+b))) (pure (.int (a-b))) (guard (decide (a.natAbs<2 ^ 64)||decide (b.natAbs<2 ^ 64))>>=λ_=>pure (.int (a*b))) no no (guard (decide (b≠0))>>=λ_=>pure (.int (a.fmod b))) (guard (decide (0<=b)&&decide (b<=90)&&decide (1<a)&&decide (a<=256))>>=λ_=>pure (.int (a ^ b.toNat))) (guard (decide (0<=b)&&decide (b<=64)&&decide (a.natAbs<2 ^ 64))>>=λ_=>pure (.int (a*2 ^ b.toNat))) (guard (decide (0<=b))>>=λ_=>pure (.int (a.fdiv (2 ^ b.toNat)))) (pure (.int (afk a b))) no (pure (.int (acx a b))) (guard (decide (b≠0)&&decide (b.natAbs<2 ^ 64))>>=λ_=>pure (.int (a.fdiv b)))
noncomputable def isAdd (op:abZ):Bool:=op.ctorIdx==0
noncomputable def isMul (op:abZ):Bool:=op.ctorIdx==2
def one:List V->M V
 | [a]=>pure a
 |_=>no
def tM(a b:Nat):M V:=bV a>>=λxs=>bV b>>=λys=>guard (decide (xs.length+ys.length<=lim))>>=λ_=>alloc (.list (xs++ys))
def mulL(a:Nat)(n:Int):M V:=bV a>>=λxs=>guard (decide (0<=n)&&decide (n<=lim))>>=λ_=>one xs>>=λx=>alloc (.list (aaT n.toNat x))
def tN(op:abZ)(a:Nat)(v:V):M V:=V.casesOn (motive:=λ_=>M V) v no (λx0=>no) (λn=>guard (isMul op)>>=λ_=>mulL a n) (λx0=>no) (λx0=>no) (λb=>guard (isAdd op)>>=λ_=>tM a b) (λx0=>no) (λx0=>no) (λx0=>no) (λx0=>no)
def binop(op:abZ)(a b:V):M V:=V.casesOn (motive:=λ_=>M V) a no (λx0=>no) (λa=>aX b>>=λb=>pD op a b) (λx0=>no) (λa=>guard (isAdd op)>>=λ_=>eZ b>>=λb=>guard (decide (a.length+b.length<=lim))>>=λ_=>pure (.bytes (a++b))) (λa=>tN op a b) (λx0=>no) (λx0=>no) (λx0=>no) (λx0=>no)
def AB(op:abZ)(a b:Int):M V:=ahm (motive:=λ_=>M V) op (pure (.int (a+b))) (pure (.int (a-b))) no no no no no no no no no no no
def cE(op:abZ)(a b:V):M V:=aX a>>=λa=>aX b>>=λb=>AB op a b
noncomputable def gZ (f:V->V->Option Bool):List V->List V->Option Bool
 | [],_=>some true
 |x::xs,l=>match l with
  | []=>some true
  |y::ys=>(f x y).bind λr=>(gZ f xs ys).bind λr'=>some (r&&r')
def pE(f:V->V->Option Bool)(x y:Option O):Option Bool:=match x.bind jj with
 |some xs=>(y.bind jj).bind λys=>if xs.length=ys.length then gZ f xs ys else some false
 |none=>(x.bind oTup).bind λxs=>(y.bind oTup).bind λys=>if xs.length=ys.length then gZ f xs ys else none
def pF(H:Hp)(f:V->V->Option Bool)(a b:Nat):Option Bool:=if a=b then none else pE f H[a]? H[b]?
noncomputable def eh:Nat:=1000000
def AD(H:Hp)(f:V->V->Option Bool)(a b:V):Option Bool:=V.casesOn (motive:=λ_=>Option Bool) a ((toN b).map λ_=>true) (λa=>(lu b).map (a==·)) (λa=>(jk b).map (a==·)) (λa=>(toS b).bind λb=>if a=eh∨b=eh then none else some (a==b)) (λa=>(lx b).map (a==·)) (λa=>(jl b).bind (pF H f a)) (λ_=>none) (λ_=>none) (λ_=>none) (λ_=>none)
noncomputable def gj (H:Hp):Nat->V->V->Option Bool
 | 0,_,_=>none
 |n+1,a,b=>AD H (gj H n) a b
noncomputable def dW {κ:Type} [BEq κ] (es:List (κ×V)) (k:κ):Option V:=es.lookup k
noncomputable def dput {κ:Type} [DecidableEq κ] (es:List (κ×V)) (k:κ) (v:V):List (κ×V):=
 if (es.lookup k).isSome then es.map λp=>if p.1=k then (p.1,v)else p else es++[(k,v)]
noncomputable def fz {κ:Type} [DecidableEq κ] (es:List (κ×V)) (k:κ):List (κ×V):=es.filter λp=>decide (p.1≠k)
def intsOf(xs:List V):Option (List Int):=xs.mapM jk
def sameRef(a b:Nat):M Bool:=if a=b then pure true else gH a>>=λ_=>pure false
noncomputable def tP (v:V):Option Bool:=V.casesOn (motive:=λ_=>Option Bool) v (some true) (λ_=>none) (λa=>some false) (λ_=>none) (λa=>some false) (λa=>some false) (λ_=>none) (λ_=>none) (λ_=>none) (λ_=>none)
def kf(a b:V):M Bool:=V.casesOn (motive:=λ_=>M Bool) b (aG (tP a)) (λx0=>no) (λx0=>no) (λx0=>no) (λx0=>no) (λb=>V.casesOn (motive:=λ_=>M Bool) a (pure false) (λx0=>no) (λx0=>no) (λx0=>no) (λx0=>no) (λa=>sameRef a b) (λx0=>no) (λx0=>no) (λx0=>no) (λx0=>no)) (λx0=>no) (λx0=>no) (λx0=>no) (λx0=>no)
def m9(a b:V):M Bool:=heap>>=λH=>aG (gj H 4 a b)
def pG(i:Int)(o:O):M Bool:=O.casesOn (motive:=λ_=>M Bool) o (λxs=>aG (intsOf xs)>>=λks=>pure (ks.contains i)) (λx0=>no) (λes=>pure (dW es i).isSome) (λx0=>no) (λx0 x1=>no) (λx0=>no) (λx0=>no) (λx0 x1 x2=>no)
def nc(a b:V):M Bool:=aX a>>=λi=>bx b>>=λd=>obj d>>=pG i
def kg(f:Int->Int->Bool)(a b:V):M Bool:=aX a>>=λi=>aX b>>=λj=>pure (f i j)
def lB(m:M Bool):M Bool:=m>>=λb=>pure (!b)
def cF(op:CmpOp)(a b:V):M Bool:=aiQ (motive:=λ_=>M Bool) op (m9 a b) (lB (m9 a b)) (kg (λa b=>decide (a<b)) a b) (kg (λa b=>decide (a<=b)) a b) (kg (λa b=>decide (a>b)) a b) (kg (λa b=>decide (a ≥ b)) a b) (kf a b) (lB (kf a b)) (nc a b) (lB (nc a b))
def truth(v:V):M Bool:=gh v
noncomputable def kh (v:V):Bool:=!(v.ctorIdx==8)
def lC(v:V)(attr:Str):M V:=do
 let a<-bx v
 let x<-gH a
 let k<-aG (fQ P attr)
 guard (P.cD.contains (x.1,k))
 let r<-aG (x.2.lookup k)
 guard (kh r)
 return r
noncomputable def e9 (fs:List (Nat×V)) (k:Nat) (v:V):List (Nat×V):=match fs with
 | []=>[(k,v)]
 |p::r=>if p.1==k then (p.1,v)::r else p::e9 r k v
def nh(v:V)(attr:Str)(x:V):M Unit:=do
 let a<-bx v
 let o<-gH a
 let k<-aG (fQ P attr)
 guard (P.cD.contains (o.1,k)&&decide (o.2.length<=100))
 put a (.inst o.1 (e9 o.2 k x))
noncomputable def place (i:Int) (n:Nat):Option Nat:=
 if 0<=i then (if i.toNat<n then some i.toNat else none)else none
noncomputable def cM {α:Type} (l:List α) (lo hi:Option Int):List α:=(l.drop (aeb lo l.length)).take (aeR hi l.length-aeb lo l.length)
def jq(xs:List V)(i:Int):M Nat:=guard (decide (xs.length<=lim))>>=λ_=>aG (place i xs.length)
def pH(i:V)(o:O):M V:=O.casesOn (motive:=λ_=>M V) o (λxs=>aX i>>=λi=>jq xs i>>=λk=>aG xs[k]?) (λxs=>aX i>>=λi=>jq xs i>>=λk=>aG xs[k]?) (λes=>aX i>>=λi=>aG (dW es i)) (λx0=>no) (λx0 x1=>no) (λx0=>no) (λx0=>no) (λx0 x1 x2=>no)
def cX(o i:V):M V:=bx o>>=λa=>obj a>>=pH i
@[irreducible] noncomputable def small (i:Option Int):Bool:=i.all λi=>decide (-(2 ^ 62)<i)&&decide (i<2 ^ 62)
def AE(b:By)(lo hi:Option Int):M V:=guard (decide (b.length<=lim))>>=λ_=>pure (.bytes (cM b lo hi))
def AF(a:Nat)(lo hi:Option Int):M V:=bV a>>=λxs=>guard (decide (xs.length<=lim))>>=λ_=>alloc (.list (cM xs lo hi))
def AG(l:List Int)(lo hi:Option Int):M V:=guard (decide (l.length<=lim))>>=λ_=>alloc (.list ((cM l lo hi).map .int))
def fA(o:V)(lo hi:Option Int):M V:=guard (small lo&&small hi)>>=λ_=>V.casesOn (motive:=λ_=>M V) o no (λx0=>no) (λx0=>no) (λx0=>no) (λb=>AE b lo hi) (λa=>AF a lo hi) (λx0=>no) (λx0=>no) (λx0=>no) (λl=>AG l lo hi)
def tQ(a:Nat)(i v:V)(o:O):M Unit:=O.casesOn (motive:=λ_=>M Unit) o (λxs=>aX i>>=λi=>jq xs i>>=λk=>put a (.list (xs.set k v))) (λx0=>no) (λes=>guard (decide (es.length<=lim))>>=λ_=>aX i>>=λi=>put a (.dict (dput es i v))) (λx0=>no) (λx0 x1=>no) (λx0=>no) (λx0=>no) (λx0 x1 x2=>no)
def dN(o i v:V):M Unit:=bx o>>=λa=>obj a>>=tQ a i v
def jr(o v:V):M Unit:=do
 let a<-bx o
 let b<-iJ a
 let x<-eZ v
 guard (decide (x.length=b.length)&&decide (b.length<=lim))
 put a (.bG x)
def pI(a:Nat)(i:V)(o:O):M Unit:=O.casesOn (motive:=λ_=>M Unit) o (λxs=>aX i>>=λi=>jq xs i>>=λk=>put a (.list (xs.eraseIdx k))) (λx0=>no) (λes=>guard (decide (es.length<=lim))>>=λ_=>aX i>>=λk=>aG (dW es k)>>=λ_=>put a (.dict (fz es k))) (λx0=>no) (λx0 x1=>no) (λx0=>no) (λx0=>no) (λx0 x1 x2=>no)
def jt(o i:V):M Unit:=bx o>>=λa=>obj a>>=pI a i
def pick(b:Bool)(x:V×List V):M (V×List V):=guard b>>=λ_=>pure x
def lD(v:V)(nm:Str)(o:O):M (V×List V):=O.casesOn (motive:=λ_=>M (V×List V)) o (λxs=>if nm==("append":Str)then pure (.bi "list.append",[v])else pick (nm==("remove":Str)) (.bi "list.remove",[v])) (λx0=>no) (λxs=>pick (nm==("get":Str)) (.bi "dict.get",[v])) (λx0=>no) (λc fs=>aG (fQ P nm)>>=λk=>guard (fs.lookup k).isNone>>=λ_=>aG (P.e7.lookup (c,k))>>=λf=>pure (.ah f,[v])) (λxs=>pick (nm==("extend":Str)) (.bi "bytearray.extend",[v])) (λx0=>no) (λx0 x1 x2=>no)
def getM(v:V)(nm:Str):M (V×List V):=bx v>>=λa=>obj a>>=lD P v nm
def pJ(v:V):Option UInt8:=(jk v).bind λi=>if 0<=i∧i<256 then some i.toNat.toUInt8 else none
def bytesOf(xs:List V):Option By:=xs.mapM pJ
def gk(H:Hp)(v:V):Option Addr:=(((jl v).bind λa=>H[a]?).bind lr).map (·.1)
def dz:List V->M V
 | [a]=>pure a
 |_=>no
def eP:List V->M (V×V)
 | [a,b]=>pure (a,b)
 |_=>no
def ki:List V->M (V×V×V)
 | [a,b,c]=>pure (a,b,c)
 |_=>no
def ni(n:Nat):M V:=guard (decide (n<=lim))>>=λ_=>pure (.int n)
def lE(o:O):M V:=O.casesOn (motive:=λ_=>M V) o (λxs=>ni xs.length) (λx0=>no) (λx0=>no) (λn=>pure (.int n)) (λx0 x1=>no) (λb=>ni b.length) (λx0=>no) (λx0 x1 x2=>no)
def AH(v:V):M V:=V.casesOn (motive:=λ_=>M V) v no (λx0=>no) (λx0=>no) (λx0=>no) (λb=>ni b.length) (λa=>obj a>>=lE) (λx0=>no) (λx0=>no) (λx0=>no) (λb=>ni b.length)
def tR(args:List V):M V:=dz args>>=AH
def tT(args:List V):M V:=dz args>>=λa=>aX a>>=λi=>pure (.int i.natAbs)
def tU(args:List V):M V:=eP args>>=λp=>aX p.1>>=λa=>aX p.2>>=λb=>pure (.int (min a b))
def tV(args:List V):M V:=eP args>>=λp=>aX p.1>>=λ_=>m6 p.2>>=λn=>guard (decide (n="int"))>>=λ_=>pure (.bool true)
def tW(args:List V):M V:=eP args>>=λp=>bx p.1>>=λa=>bV a>>=λxs=>guard (decide (xs.length<lim))>>=λ_=>put a (.list (xs++[p.2]))>>=λ_=>pure .none
def pK(args:List V):M V:=eP args>>=λp=>bx p.1>>=λa=>bx p.2>>=λb=>bV a>>=λxs=>heap>>=λH=>aG (gk H (.ref b))>>=λC=>
 guard (P.eqs.contains C&&decide (xs.length<=lim)&&xs.all (λx=>gk H x==some C))>>=λ_=>aG (xs.findIdx? (isRef b))>>=λk=>put a (.list (xs.eraseIdx k))>>=λ_=>pure .none
def tX(args:List V):M V:=eP args>>=λp=>bx p.1>>=λa=>aX p.2>>=λk=>dictAt a>>=λes=>pure ((dW es k).getD .none)
def tY(args:List V):M V:=ki args>>=λp=>bx p.1>>=λa=>aX p.2.1>>=λk=>dictAt a>>=λes=>pure ((dW es k).getD p.2.2)
def tZ(args:List V):M V:=eP args>>=λp=>bx p.1>>=λa=>eZ p.2>>=λx=>iJ a>>=λb=>guard (decide (b.length+x.length<=lim))>>=λ_=>put a (.bG (b++x))>>=λ_=>pure .none
def bi(id:String)(args:List V):M V:=
 if id="len" then tR args
 else if id="abs" then tT args
 else if id="min" then tU args
 else if id="isinstance" then tV args
 else if id="list.append" then tW args
 else if id="list.remove" then pK P args
 else if id="dict.get" then (if args.length=2 then tX args else tY args)
 else if id="bytearray.extend" then tZ args
 else no
def pL(o:O):M V:=O.casesOn (motive:=λ_=>M V) o (λxs=>guard (decide (xs.length<=lim))>>=λ_=>aG (bytesOf xs)>>=λb=>pure (.bytes b)) (λx0=>no) (λx0=>no) (λx0=>no) (λx0 x1=>no) (λb=>guard (decide (b.length<=lim))>>=λ_=>pure (.bytes b)) (λx0=>no) (λx0 x1 x2=>no)
def AI(v:V):M V:=V.casesOn (motive:=λ_=>M V) v no (λx0=>no) (λn=>guard (decide (0<=n)&&decide (n<=lim))>>=λ_=>pure (.bytes (aaT n.toNat 0))) (λx0=>no) (λb=>pure (.bytes b)) (λa=>obj a>>=pL) (λx0=>no) (λx0=>no) (λx0=>no) (λx0=>no)
def t5(args:List V):M V:=dz args>>=λa=>gh a>>=λb=>pure (.int (if b then 1 else 0))
noncomputable def eo (a b c:Int):Bool:=decide (-(2 ^ 60)<a)&&decide (a<2 ^ 60)&&decide (-(2 ^ 60)<b)&&decide (b<2 ^ 60)&&decide (0<c)&&decide (c<2 ^ 20)
def t6(args:List V):M V:=if args.length=1 then dz args>>=λa=>aX a>>=λb=>alloc (.range 0 b 1)else if args.length=2 then eP args>>=λp=>aX p.1>>=λa=>aX p.2>>=λb=>alloc (.range a b 1)
 else ki args>>=λp=>aX p.1>>=λa=>aX p.2.1>>=λb=>aX p.2.2>>=λc=>guard (eo a b c)>>=λ_=>alloc (.range a b c)
def t7(args:List V):M V:=dz args>>=λa=>bx a>>=λa=>dictAt a>>=λes=>guard (decide (es.length<=lim))>>=λ_=>alloc (.dict es)
def t8(args:List V):M V:=dz args>>=AI
def t9(args:List V):M V:=match args with
 | []=>alloc (.bG [])
 |_=>no
def uc(args:List V):M V:=dz args>>=λa=>eZ a>>=λb=>guard (decide (b.length<=lim))>>=λ_=>alloc (.bG b)
def ud(args:List V):M V:=dz args>>=λa=>bx a>>=λa=>bV a>>=λxs=>guard (decide (xs.length<=lim))>>=λ_=>alloc (.list xs)
def gJ(ns:List Int):Nat:=(ns.foldl acf []).length
def ue(args:List V):M V:=dz args>>=λa=>bx a>>=λa=>bV a>>=λxs=>aG (intsOf xs)>>=λns=>guard (decide (ns.length<=500))>>=λ_=>alloc (.j9 (gJ ns))
def uf(n:String)(args:List V):M V:=
 if n="int" then t5 args
 else if n="range" then t6 args
 else if n="bytes" then t8 args
 else if n="bytearray" then (if args.length=0 then t9 args else uc args)
 else if n="list" then ud args
 else if n="dict" then t7 args
 else if n="set" then ue args
 else no
variable (C:Ct) (lv:Bool)
def call(f:V)(args:List V):M V:=do guard lv;λs=>match C f args s.H with
 | .ok v H=>.ok v {s with H:=H}
 | .exc c H=>.exc c {s with H:=H}
 | .no=>.no
noncomputable def nj (v:V):Bool:=V.casesOn (motive:=λ_=>Bool) v false (λ_=>false) (λ_=>false) (λ_=>false) (λ_=>false) (λ_=>false) (λ_=>false) (λ_=>false) (λid=>id=="len") (λ_=>false)
def lF(g:Addr)(args:List V)(o:Option Addr):M V:=match o with
 |some init=>alloc (.inst g [])>>=λx=>call C lv (.ah init) (x::args)>>=pq>>=λ_=>pure x
 |none=>call C lv (.ah g) args
def pM(f:V)(args:List V):M V:=V.casesOn (motive:=λ_=>M V) f no (λx0=>no) (λx0=>no) (λx0=>no) (λx0=>no) (λx0=>no) (λg=>lF C lv g args (P.cls.lookup g)) (λn=>uf n args) (λid=>bi P id args) (λx0=>no)
def aP(f:V)(args:List V):M V:=guard (lv||nj f)>>=λ_=>pM P C lv f args
noncomputable def notStar (e:Expr):Bool:=!(e.ctorIdx==22)
def lG(args:List Expr):Bool:=args.all notStar&&decide (args.length<20)
def lH(e:Expr):Bool:=!(e.ctorIdx==16)||(kb e).any λc=>!c.2.1.isEmpty
noncomputable def eQ (ev:Expr->M V):List Expr->M (List V)
 | []=>pure []
 |e::es=>do let v<-ev e;return v::(<-eQ ev es)
noncomputable def lI (op:agU) (t:Bool):Bool:=(op==.And) != t
noncomputable def iK (ev:Expr->M V) (a:V):List CmpOp->List Expr->M Bool
 | [],_=>no
 |op::ops,es=>match es with
  | []=>no
  |e::es=>ev e>>=λb=>cF op a b>>=λt=>if ops.isEmpty then pure t else if t then iK ev b ops es else pure false
noncomputable def ju (f:Expr->M Bool) (op:agU):List Expr->M Bool
 | []=>pure (op==.And)
 |e::es=>f e>>=λt=>if lI op t then pure t else ju f op es
def ug(ev:Expr->M V)(f:Expr->M Bool)(e:Expr)(w:Te):M Bool:=match w with
 | .not x=>f x>>=λb=>pure (!b)
 | .bool op vs=>ju f op vs
 | .cmp l ops rs=>guard (decide (ops.length=rs.length))>>=λ_=>ev l>>=λa=>iK ev a ops rs
 | .pB=>no
 | .other=>ev e>>=truth
noncomputable def gK (ev:Expr->M V):Nat->Expr->M Bool
 | 0,_=>no
 |n+1,e=>ug ev (gK ev n) e (pC e)
noncomputable def nq (ev:Expr->M V) (op:agU):List Expr->M V
 | []=>no
 |e::es=>if es.isEmpty then ev e else ev e>>=λv=>gh v>>=λt=>if lI op t then pure v else nq ev op es
def kj(ev:Expr->M V):Option Expr->M (Option Int)
 |none=>pure none
 |some e=>do return some (<-aX (<-ev e))
noncomputable def isSlice (e:Expr):Bool:=e.ctorIdx==26
def uh(ev:Expr->M V)(o i:Expr)(v:V)(w:Option (Option Expr×Option Expr×Option Expr)):M Unit:=match w with
 |some x=>guard (x.1.isNone&&x.2.1.isNone&&x.2.2.isNone)>>=λ_=>ev o>>=λov=>jr ov v
 |none=>ev o>>=λov=>ev i>>=λiv=>dN ov iv v
def ui(ev:Expr->M V)(o i:Expr)(v:V):M Unit:=uh ev o i v (m7 i)
noncomputable def lJ (f:Expr->V->M Unit):List Expr->List V->M Unit
 | [],_=>pure ()
 |t::ts,l=>match l with
  | []=>pure ()
  |x::xs=>f t x>>=λ_=>lJ f ts xs
def jv(ev:Expr->M V)(sc:Scope)(f:Expr->V->M Unit)(v:V)(w:Tg):M Unit:=match w with
 | .name x _=>store sc x v
 | .attr o a _=>ev o>>=λov=>nh P ov a v
 | .sub o i=>ui ev o i v
 | .tup ts=>guard (lv&&ts.all notStar)>>=λ_=>bx v>>=λa=>iI a>>=λxs=>guard (decide (xs.length=ts.length))>>=λ_=>lJ f ts xs
 | .other=>no
noncomputable def asg (ev:Expr->M V) (sc:Scope):Nat->Expr->V->M Unit
 | 0,_,_=>no
 |n+1,t,v=>jv P lv ev sc (asg ev sc n) v (gi t)
noncomputable def rangeInts (a b c:Int):List Int:=(aaw (if a<b then (b-a-1)/c+1 else 0).toNat).map λ(k:Nat)=>a+(k:Int)*c
def km(a:Nat)(o:O):M (List V×Option (Nat×List V)):=O.casesOn (motive:=λ_=>M (List V×Option (Nat×List V))) o (λxs=>guard (decide (xs.length<=lim))>>=λ_=>pure (xs,some (a,xs))) (λx0=>no) (λx0=>no) (λx0=>no) (λx0 x1=>no) (λx0=>no) (λx0=>no) (λa b c=>guard (eo a b c)>>=λ_=>pure ((rangeInts a b c).map .int,none))
def iter(v:V):M (List V×Option (Nat×List V)):=bx v>>=λa=>obj a>>=km a
open Classical in
def bI:Option (Nat×List V)->M Unit
 |none=>pure ()
 |some p=>bV p.1>>=λys=>guard (decide (ys=p.2))
noncomputable def loop {α:Type} (bB:M Unit) (turn:V->M (Option α)):List V->M (Option α)
 | []=>do bB;return none
 |x::xs=>bB>>=λ_=>turn x>>=λr=>if r.isSome then pure r else loop bB turn xs
noncomputable def g7 (sc:Scope):Bool:=decide (sc.kind=.function)&&!sc.isGenerator&&!sc.isCoroutine&&decide (sc.names.map (·.1)).Nodup&&sc.names.all λq=>!(q.1==("__debug__":Str))&&!(q.1==("__classdict__":Str))
def pN(sc:Scope)(lo:Lo)(x:Str):aax->Option (Option V)
 | .local=>some none
 | .free=>(match de sc x with
  | .cx i=>lo[i]?.join.map some
  |_=>none)
 | .globalImplicit=>some none
 |_=>none
noncomputable def g8 (sc:Scope) (lo:Lo):List (Str×aax)->Option Lo
 | []=>some []
 |p::r=>(pN sc lo p.1 p.2).bind λv=>(g8 sc lo r).map (v::·)
noncomputable def inBlock {α:Type} (lo:Lo) (m:M α):M α:=λs=>match m {s with lo:=lo} with
 | .ok a s'=>.ok a {s' with lo:=s.lo}
 | .exc _ _=>.no
 | .no=>.no
noncomputable def locals:M Lo:=λs=>.ok s.lo s
def gm(tgt:V->M Unit)(f:Expr->M Bool)(ifs:List Expr)(elt:M V)(acc:V)(v:V):M (Option Unit):=
 tgt v>>=λ_=>ju f .And ifs>>=λok=>if ok then (elt>>=λy=>bi P "list.append" [acc,y]>>=λ_=>pure none)else pure none
def comp(evn:Scope->Expr->M V)(n:Nat)(sc:Scope)(elt t:Expr)(ifs:List Expr)(scope:Scope)(x:V):M V:=
 guard (lv&&g7 scope)>>=λ_=>iter x>>=λit=>locals>>=λlo=>alloc (.list [])>>=λacc=>aG (g8 sc lo scope.names)>>=λlo'=>
  inBlock lo' (loop (bI it.2) (gm P (asg P lv (evn scope) scope 3 t) (gK (evn scope) n) ifs (evn scope elt) acc) it.1)>>=λ_=>pure acc
def nv(evn:Scope->Expr->M V)(n:Nat)(sc:Scope)(elt:Expr)(gens:List ahZ)(scope:Scope):M V:=match gens with
 | []=>no
 |g::r=>guard (r.isEmpty&&decide (g.is_async=0))>>=λ_=>evn sc g.iter>>=λx=>comp P lv evn n sc elt g.target g.ifs scope x
def pO(ev:Expr->M V)(op:UnaryOp)(x:Expr):M V:=guard (op.ctorIdx==1)>>=λ_=>ev x>>=truth>>=λb=>pure (.bool (!b))
def AJ(ev:Expr->M V)(o:Expr)(nm:Str)(apos:Pos)(args:List Expr)(pos:Pos):M V:=do
 guard (lH o&&lG args&&(apos.endLine==pos.line))
 let ov<-ev o
 let fm<-getM P ov nm
 let as<-eQ ev args
 aP P C lv fm.1 (fm.2++as)
def AK(ev:Expr->M V)(f:Expr)(args:List Expr):M V:=do
 guard (lG args)
 let fv<-ev f
 let as<-eQ ev args
 aP P C lv fv as
def uj(ev:Expr->M V)(args:List Expr)(pos:Pos)(w:Tg):M V:=match w with
 | .attr o nm apos=>AJ P C lv ev o nm apos args pos
 | .name x p=>AK P C lv ev (.Name x p) args
 |_=>no
def uk(ev:Expr->M V)(f:Expr)(args:List Expr)(kws:List afW)(pos:Pos):M V:=guard kws.isEmpty>>=λ_=>uj P C lv ev args pos (gi f)
def um(ev:Expr->M V)(o i:Expr)(w:Option (Option Expr×Option Expr×Option Expr)):M V:=match w with
 |some x=>guard x.2.2.isNone>>=λ_=>ev o>>=λov=>kj ev x.1>>=λl=>kj ev x.2.1>>=λh=>fA ov l h
 |none=>ev o>>=λov=>ev i>>=λiv=>cX ov iv
def uo(ev:Expr->M V)(o i:Expr):M V:=um ev o i (m7 i)
def uq(ks:List (Option Expr))(vs:List Expr):M V:=guard (ks.isEmpty&&vs.isEmpty)>>=λ_=>alloc (.dict [])
def AL(n:Nat)(evn:Scope->Expr->M V)(sc:Scope)(e:Expr):M V:=aaO (motive_1:=λ_=>M V) e (λop vs x2=>nq (evn sc) op vs) (λx0 x1 x2=>no) (λl op r x3=>evn sc l>>=λa=>evn sc r>>=λb=>binop op a b) (λop x x2=>pO (evn sc) op x) (λx0 x1 x2 x3=>no) (λt b o x3=>gK (evn sc) n t>>=λx=>if x then evn sc b else evn sc o) (λks vs x2=>uq ks vs) (λx0 x1 x2=>no) (λelt gens scope x3=>nv P lv evn n sc elt gens scope) (λx0 x1 x2 x3=>no) (λx0 x1 x2 x3 x4=>no) (λx0 x1 x2 x3=>no) (λx0 x1=>no) (λx0 x1=>no) (λx0 x1=>no) (λl ops rs x3=>guard (decide (ops.length=rs.length))>>=λ_=>evn sc l>>=λa=>iK (evn sc) a ops rs>>=λt=>pure (.bool t)) (λf args kws pos=>uk P C lv (evn sc) f args kws pos) (λx0 x1 x2 x3=>no) (λx0 x1=>no) (λc x1 x2=>const P c) (λo a x2=>guard (lH o)>>=λ_=>evn sc o>>=λov=>lC P ov a) (λo i x2=>uo (evn sc) o i) (λx0 x1=>no) (λx x1=>name P sc x) (λes x1=>guard (es.all notStar)>>=λ_=>eQ (evn sc) es>>=λvs=>guard (decide (vs.length<=lim))>>=λ_=>alloc (.list vs)) (λes x1 x2=>guard (es.all notStar)>>=λ_=>eQ (evn sc) es>>=λvs=>guard (decide (vs.length<=lim))>>=λ_=>alloc (.tuple vs)) (λx0 x1 x2 x3=>no)
def ev:Nat->Scope->Expr->M V
 | 0,_,_=>no
 |n+1,sc,e=>AL P C lv n (ev n) sc e
inductive Fl where
 |next |ret (v:V)
abbrev Lm:=List (M Fl)
def ur(r:Fl)(k:M Fl):M Fl:=match r with
 | .next=>k
 | .ret _=>pure r
noncomputable def bH (ex:Stmt->M Fl):List Stmt->M Fl
 | []=>pure .next
 |s::ss=>ex s>>=λr=>ur r (bH ex ss)
noncomputable def attempt {α:Type} (m:M α) (h:Addr->M α):M α:=λs=>match m s with
 | .exc c s'=>h c s'
 |r=>r
noncomputable def isExc (c:Addr):Bool:=c==P.bO
noncomputable def handlers (nm:Str->M V) (bH:List Stmt->M Fl) (c:Addr):List agk->M Fl
 | []=>no
 | .ExceptHandler t as body _::hs=>guard (as.isNone&&!body.isEmpty)>>=λ_=>aG (t.bind kc)>>=λx=>nm x>>=λv=>pn v>>=λd=>guard (isExc P c&&isExc P d)>>=λ_=>if d=c then calm (bH body)else handlers nm bH c hs
noncomputable def isTup (e:Expr):Bool:=e.ctorIdx==25
noncomputable def pP (e:Expr):Bool:=!(e.ctorIdx==9)&&!(e.ctorIdx==10)
noncomputable def jw (e:Expr):Bool:=!(e.ctorIdx==8)&&!(e.ctorIdx==9)&&!(e.ctorIdx==10)
noncomputable def notName (e:Expr):Bool:=!(e.ctorIdx==23)
def elts(e:Expr):List Expr:=match gi e with
 | .tup ts=>ts
 |_=>[]
def lK(sc:Scope)(e:Expr):Bool:=match kc e with
 |some x=>(match sc.names.lookup x with
  |some .cell=>true
  |some .free=>true
  |_=>false)
 |none=>false
def uu(sc:Scope)(t v:Expr):Bool:=!isTup v||!isTup t||(elts t).any notName||(elts t).any (lK sc)||(!((elts v).all (afK 8))&&(decide ((elts t).length=2)||decide ((elts t).length=3)))
noncomputable def cY:Nat:=40
def eA(tgt:V->M Unit)(body:M (Option V))(x:V):M (Option V):=tgt x>>=λ_=>body
def eR:Fl->M (Option V)
 | .next=>pure none
 | .ret r=>pure (some r)
def eD:Option V->M Fl
 |none=>pure .next
 |some r=>pure (.ret r)
def iL(xs:List V)(v:V):M V:=aX v>>=λk=>aG xs[k.toNat]? >>=λx=>alloc (.tuple [.int k,x])
def pQ(it:Expr):Option (Str×Expr):=(kb it).bind λc=>(kc c.1).bind λx=>(m8 c.2.1).bind λe=>if c.2.2.isEmpty then some (x,e)else none
def retS(ev:Expr->M V)(e:Option Expr):M Fl:=match e with
 |none=>pure (.ret .none)
 |some e=>do let v<-ev e;return .ret v
def uv(ev:Expr->M V)(sc:Scope)(ts:List Expr)(v:Expr):M Fl:=aG (m8 ts)>>=λt=>guard (pP v&&uu sc t v)>>=λ_=>ev v>>=λx=>asg P lv ev sc 3 t x>>=λ_=>pure .next
def uw(ev:Expr->M V)(sc:Scope)(op:abZ)(v:Expr)(w:Tg):M Fl:=match w with
 | .attr o a _=>ev o>>=λov=>lC P ov a>>=λold=>ev v>>=λb=>cE op old b>>=λr=>nh P ov a r>>=λ_=>pure .next
 | .sub o i=>guard (!isSlice i)>>=λ_=>ev o>>=λov=>ev i>>=λiv=>cX ov iv>>=λold=>ev v>>=λb=>cE op old b>>=λr=>dN ov iv r>>=λ_=>pure .next
 |_=>no
def ux(ev:Expr->M V)(sc:Scope)(t:Expr)(op:abZ)(v:Expr):M Fl:=uw P ev sc op v (gi t)
noncomputable def gn (i:Int):Bool:=decide (i.natAbs<2 ^ 64)
def b8(c:Addr)(as:List V):M Fl:=guard (c==P.bO&&lv)>>=λ_=>dz as>>=λa=>aX a>>=λi=>guard (gn i)>>=λ_=>raise c
def pR(ev:Expr->M V)(sc:Scope)(x:Str)(args:List Expr):M Fl:=guard (lG args)>>=λ_=>name P sc x>>=pn>>=λc=>eQ ev args>>=λas=>b8 P lv c as
def uy(ev:Expr->M V)(sc:Scope)(e c:Option Expr):M Fl:=aG (e.bind kb)>>=λd=>aG (kc d.1)>>=λx=>guard (c.isNone&&d.2.2.isEmpty)>>=λ_=>pR P lv ev sc x d.2.1
def uA(ev:Expr->M V)(ts:List Expr):M Fl:=aG ((m8 ts).bind tL)>>=λp=>guard (!isSlice p.2)>>=λ_=>ev p.1>>=λov=>ev p.2>>=λiv=>jt ov iv>>=λ_=>pure .next
def plainS(ev:Expr->M V)(body:M Fl)(sc:Scope)(t it:Expr):M Fl:=
 ev it>>=λx=>iter x>>=λi=>loop (bI i.2) (λv=>pure v>>=eA (asg P lv ev sc 3 t) (body>>=eR)) i.1>>=eD
def uB(ev:Expr->M V)(body:M Fl)(sc:Scope)(t:Expr)(f:Str)(e:Expr):M Fl:=
 guard (isTup t&&notStar e)>>=λ_=>name P sc f>>=λfv=>guard (pv "enumerate" fv)>>=λ_=>ev e>>=λw=>bx w>>=λa=>bV a>>=λxs=>guard (decide (xs.length<=lim))>>=λ_=>
  loop (bI (some (a,xs))) (λv=>iL xs v>>=eA (asg P lv ev sc 3 t) (body>>=eR)) ((aaw xs.length).map λ(k:Nat)=>V.int (k:Int))>>=eD
def uC(ev:Expr->M V)(body:M Fl)(sc:Scope)(t:Expr)(f:Str)(e:Expr):M Fl:=
 guard (notStar e)>>=λ_=>name P sc f>>=λfv=>guard (pv "reversed" fv)>>=λ_=>ev e>>=λw=>eZ w>>=λb=>guard (decide (b.length<=lim))>>=λ_=>
  loop (bI none) (λv=>pure v>>=eA (asg P lv ev sc 3 t) (body>>=eR)) (b.reverse.map λx=>V.int (x.toNat:Int))>>=eD
def pS(ev:Expr->M V)(body:M Fl)(sc:Scope)(t it:Expr):M Fl:=match pQ it with
 |none=>plainS P lv ev body sc t it
 |some p=>if p.1==("enumerate":Str)then uB P lv ev body sc t p.1 p.2 else if p.1==("reversed":Str)then uC P lv ev body sc t p.1 p.2 else plainS P lv ev body sc t it
def AM(exn:Bool->Scope->Stmt->M Fl)(sc:Scope)(s:Stmt):M Fl:=afP (motive_2:=λ_=>M Fl) s (λx0 x1 x2 x3 x4 x5 x6 x7 x8 x9=>no) (λx0 x1 x2 x3 x4 x5 x6 x7 x8 x9=>no) (λx0 x1 x2 x3 x4 x5 x6 x7 x8 x9 x10=>no) (λe x1=>retS (ev P C lv cY sc) e) (λts x1=>uA (ev P C lv cY sc) ts) (λts v x2=>uv P lv (ev P C lv cY sc) sc ts v) (λx0 x1 x2 x3 x4 x5 x6=>no) (λt op v x3=>ux P (ev P C lv cY sc) sc t op v) (λx0 x1 x2 x3 x4=>no) (λt it body o x4=>guard (o.isEmpty&&lv)>>=λ_=>pS P lv (ev P C lv cY sc) (bH (exn lv sc) body) sc t it) (λx0 x1 x2 x3 x4=>no) (λx0 x1 x2 x3=>no) (λt b o x3=>gK (ev P C lv cY sc) cY t>>=λx=>if x then bH (exn lv sc) b else bH (exn lv sc) o) (λx0 x1 x2=>no) (λx0 x1 x2=>no) (λx0 x1 x2=>no) (λe c x2=>uy P lv (ev P C lv cY sc) sc e c) (λbody hs o f x4=>guard (o.isEmpty&&f.isEmpty)>>=λ_=>attempt (bH (exn lv sc) body) λc=>handlers P (name P sc) (bH (exn false sc)) c hs) (λx0 x1 x2 x3 x4=>no) (λx0 x1 x2=>no) (λx0 x1=>no) (λx0 x1 x2 x3=>no) (λx0 x1=>no) (λx0 x1=>no) (λv x1=>guard (jw v)>>=λ_=>ev P C lv cY sc v>>=λ_=>pure .next) (λx0=>pure .next) (λx0=>no) (λx0=>no)
def ex:Nat->Bool->Scope->Stmt->M Fl
 | 0,_,_,_=>no
 |n+1,lv,sc,s=>AM P C lv (ex n) sc s
end
noncomputable def dG (names:List (Str×aax)) (b:List (Str×V)) (base:Nat):Lo:=match names with
 | []=>[]
 |p::r=>match p.2 with
  | .cell=>some (.ref base)::dG r b (base+1)
  | .local=>b.lookup p.1::dG r b base
  |_=>none::dG r b base
noncomputable def eE (names:List (Str×aax)) (b:List (Str×V)):List O:=
 (names.filter λp=>p.2==.cell).map λp=>O.cell (b.lookup p.1)
noncomputable def binds (f:Fn) (args:List V):Option (List (Str×V)):=if args.length=f.params.length then some (f.params.zip args)else if args.length+1=f.params.length∧f.lz=true then some (f.params.zip (args++[.none]))else none
noncomputable def iM:R Fl->CR
 | .ok r s=>.ok (match r with
  | .next=>.none
  | .ret v=>v) s.H
 | .exc c s=>.exc c s.H
 | .no=>.no
noncomputable def lL {α:Type} (o:Option α) (f:α->CR):CR:=match o with
 |none=>.no
 |some a=>f a
def runC(P:a9)(C:Ct)(a:Addr)(args:List V)(H:Hp):CR:=lL (P.fn a) λfd=>lL (binds fd args) λb=>iM (bH (ex P C cY true fd.scope) fd.body ⟨dG fd.scope.names b H.length,H++eE fd.scope.names b⟩)
def pT(P:a9)(C:Ct)(f:V)(args:List V)(H:Hp):CR:=V.casesOn (motive:=λ_=>CR) f .no (λx0=>.no) (λx0=>.no) (λx0=>.no) (λx0=>.no) (λx0=>.no) (λa=>runC P C a args H) (λx0=>.no) (λx0=>.no) (λx0=>.no)
def run(P:a9):Nat->Ct
 | 0,_,_,_=>.no
 |n+1,f,args,H=>pT P (run P n) f args H
def aQ{α β:Type}(R:α->β->Prop)(l:List α):List β->Prop:=
 List.rec (motive:=λ_=>List β->Prop) (λl'=>l'=[]) (λa _ ih l'=>∃ b,∃ bs,l'=b::bs∧R a b∧ih bs) l
section
variable {α β:Type} {R:α->β->Prop}
theorem aQ.nil:aQ R [] []:=rfl
theorem aQ.cons{a:α}{b:β}{as:List α}{bs:List β}(h:R a b)(t:aQ R as bs):aQ R (a::as) (b::bs):=⟨b,bs,rfl,h,t⟩
theorem aQ.ind{motive:(l:List α)->(l':List β)->aQ R l l'->Prop}(nil:motive [] [] .nil)(cons:∀ {a b as bs} (h:R a b) (t:aQ R as bs),motive as bs t->motive (a::as) (b::bs) (.cons h t)){l:List α}{l':List β}(q:aQ R l l'):motive l l' q:=by
 induction l generalizing l' with
 |nil=>cases (show l'=[] from q);exact nil
 |cons a as ih=>
  obtain⟨b,bs,rfl,h,t⟩:=q
  exact cons h t (ih t)
@[elab_as_elim] theorem aQ.fold {motive:(l:List α)->(l':List β)->Prop} {l:List α} {l':List β} (q:aQ R l l') (h0:motive [] []) (h1:∀ a b as bs,R a b->aQ R as bs->motive as bs->motive (a::as) (b::bs)):motive l l':=by
 induction l generalizing l' with
 |nil=>exact(show l'=[] from q)▸h0
 |cons a as ih=>
  obtain⟨b,bs,rfl,h,t⟩:=q
  exact h1 a b as bs h t (ih t)
end
structure Cx where
 prog:acI
 w:World
 T:List Str
 b₀:Heap
 X:List (Addr×Obj)
 fs:List (Addr×(Str->Option Value))
 N:Addr
structure Gs where
 ρ:List (Addr×Addr)
 m:Str->Option Value
structure Ext(g g':Gs):Prop where
 ρ:g.ρ<+:g'.ρ
theorem Ext.refl(g:Gs):Ext g g:=⟨adt⟩
theorem Ext.trans{g g' g'':Gs}(a:Ext g g')(b:Ext g' g''):Ext g g'':=⟨a.ρ.trans b.ρ⟩
section
variable (c:Cx)
def VR(g:Gs)(v:V)(r:Value):Prop:=
 V.casesOn (motive:=λ_=>Prop) v (r=.none) (λb=>r=.bool b) (λi=>∃ t,r=.int i t) (λk=>∃ x,∃ t,r=.str x t∧(c.T[k]? =some x∨k=eh)) (λb=>∃ t,r=.bytes b.toArray t) (λa=>∃ x,∃ y,r=.ref x∧g.ρ[a]? =some (x,y)) (λa=>r=.ref a) (λn=>r=.type n) (λn=>r=.builtin n) (λl=>∃ a,∃ vs:Vs,r=.ref a∧c.b₀.IsList a vs.toArray∧agX vs l)
section
variable {c:Cx} {g:Gs}
theorem VR.none:VR c g .none .none:=rfl
theorem VR.bool(b:Bool):VR c g (.bool b) (.bool b):=rfl
theorem VR.int(i:Int)(t:Tok):VR c g (.int i) (.int i t):=⟨t,rfl⟩
theorem VR.str{k:Nat}{x:Str}(t:Tok)(h:c.T[k]? =some x):VR c g (.str k) (.str x t):=⟨x,t,rfl,.inl h⟩
theorem VR.eh(x:Str)(t:Tok):VR c g (.str eh) (.str x t):=⟨x,t,rfl,.inr rfl⟩
theorem VR.bytes(b:By)(t:Tok):VR c g (.bytes b) (.bytes b.toArray t):=⟨t,rfl⟩
theorem VR.ref{a:Nat}{x y:Addr}(h:g.ρ[a]? =some (x,y)):VR c g (.ref a) (.ref x):=⟨x,y,rfl,h⟩
theorem VR.ah(a:Addr):VR c g (.ah a) (.ref a):=rfl
theorem VR.ty(n:String):VR c g (.ty n) (.type n):=rfl
theorem VR.bi(n:String):VR c g (.bi n) (.builtin n):=rfl
theorem VR.AN{l:List Int}{a:Addr}{vs:Vs}(h:c.b₀.IsList a vs.toArray)(hi:agX vs l):VR c g (.ints l) (.ref a):=⟨a,vs,rfl,h,hi⟩
end
abbrev aA(g:Gs):List V->Vs->Prop:=aQ (VR c g)
def cN(g:Gs)(v:Option V)(r:Option Value):Prop:=Option.rec (motive:=λ_=>Prop) (r=none) (λv=>∃ r',r=some r'∧VR c g v r') v
section
variable {c:Cx} {g:Gs}
theorem cN.none:cN c g none none:=rfl
theorem cN.some{v:V}{r:Value}(h:VR c g v r):cN c g (some v) (some r):=⟨r,rfl,h⟩
end
def FR(g:Gs)(p:Nat×V)(d:adZ):Prop:=d9 λx t hs r=>aO (d=⟨hs,.str x t,r⟩) (c.T[p.1]? =some x) (VR c g p.2 r)
theorem FR.mk{c:Cx}{g:Gs}{k:Nat}{v:V}{x:Str}{t:Tok}{hs:Int}{r:Value}(hx:c.T[k]? =some x)(hv:VR c g v r):FR c g (k,v) ⟨hs,.str x t,r⟩:=⟨x,t,hs,r,rfl,hx,hv⟩
def AO(ob:Obj)(n:Nat):Prop:=cW λes ep t=>gd ob.ExactSet (ob.data=.set es ep t) (t.fits es.size=true) (es.size<1048576) (es.size=n)
def b5(g:Gs)(p:Addr×Addr)(o:O)(ob:Obj):Prop:=
 O.casesOn (motive:=λ_=>Prop) o (λxs=>∃ vs:Vs,∃ n,ob={cls:=.type "list",data:=.seq vs.toArray n}∧aA c g xs vs) (λxs=>∃ vs:Vs,∃ n,ob={cls:=.type "tuple",data:=.seq vs.toArray n}∧aA c g xs vs) (λes=>∃ kvs,ob.IsDictOf (aia c.prog c.w) kvs∧aQ (λa b=>a.1=b.1∧VR c g a.2 b.2) es kvs) (λn=>AO ob n) (λC fs=>ob=aeY C p.2) (λb=>ob={cls:=.type "bytearray",data:=.bytearray b.toArray 0}) (λv=>∃ r,ob.data=.cell r∧cN c g v r) (λa b c=>cW λt u v=>ob={cls:=.type "range",dict:=none,data:=.fields #[.int a t,.int b u,.int c v],slots:=#[]})
def gL(g:Gs)(fs:List (Nat×V))(ob:Obj):Prop:=∃ ds n,ob=dictOf ds n∧aQ (FR c g) fs ds
def b9(m:Str->Option Value)(o:Obj):Prop:=∃ es ep,o.data=.dict es ep∧StrKeys es∧∀ name,nsFind es name=m name
abbrev Cell:=Addr×(Obj->Prop)
noncomputable def lM (g:Gs) (a:Addr) (o:O):List Cell:=O.casesOn (motive:=λ_=>List Cell) o (λx0=>[]) (λx0=>[]) (λx0=>[]) (λx0=>[]) (λC fs=>[(a,gL c g fs)]) (λx0=>[]) (λx0=>[]) (λx0 x1 x2=>[])
noncomputable def dO (g:Gs) (p:Addr×Addr) (o:O):List Cell:=(p.1,b5 c g p o)::lM c g p.2 o
noncomputable def dm (g:Gs):List (Addr×Addr)->Hp->List Cell
 | [],_=>[]
 |p::ps,H=>match H with
  | []=>[]
  |o::os=>dO c g p o++dm g ps os
noncomputable def gp:List Cell:=
 c.fs.map (λf=>(f.1,b9 f.2))++c.X.map (λp=>(p.1,(·=p.2)))
noncomputable def cells (g:Gs) (H:Hp):List Cell:=(c.N,b9 g.m)::(gp c++dm c g g.ρ H)
structure Inv(g:Gs)(H:Hp)(h:Heap):Prop where
 base:∀ b o,c.b₀.get? b=some o->h.get? b=some o
 above:c.b₀.objs.size<=c.N
 len:g.ρ.length=H.length
 sat:∀ x∈cells c g H,∃ o,h.get? x.1=some o∧x.2 o
 dp:((cells c g H).map (·.1)).Nodup
 low:∀ x∈cells c g H,c.b₀.get? x.1=none
end
section
variable {c:Cx} {g g':Gs} {H:Hp} {h h':Heap}
theorem Ext.at(x:Ext g g'){a:Nat}{p:Addr×Addr}(q:g.ρ[a]? =some p):g'.ρ[a]? =some p:=by
 obtain⟨t,ht⟩:=x.ρ
 rw[<-ht]
 exact(agD (aan.mp q).1).trans q
theorem AP(x:Ext g g'){a:Nat}{r:Value}(q:∃ u,∃ y,r=.ref u∧g.ρ[a]? =some (u,y)):∃ u,∃ y,r=.ref u∧g'.ρ[a]? =some (u,y):=by
 obtain⟨u,y,e,h⟩:=q;exact⟨u,y,e,x.at h⟩
theorem VR.mono(x:Ext g g'){v:V}{r:Value}(q:VR c g v r):VR c g' v r:=
 V.casesOn (motive:=λv=>∀ r,VR c g v r->VR c g' v r) v (λ_ q=>q) (λ_ _ q=>q) (λ_ _ q=>q) (λ_ _ q=>q) (λ_ _ q=>q) (λ_ _ q=>AP x q) (λ_ _ q=>q) (λ_ _ q=>q) (λ_ _ q=>q) (λ_ _ q=>q) r q
theorem aQ.imp{α β:Type}{R S:α->β->Prop}(f:∀ a b,R a b->S a b){l:List α}{l':List β}(q:aQ R l l'):aQ S l l':=aQ.fold q .nil λ_ _ _ _ h _ ih=>.cons (f _ _ h) ih
theorem aA.mono(x:Ext g g'){v:List V}{r:Vs}(q:aA c g v r):aA c g' v r:=aQ.imp (λ_ _=>VR.mono x) q
theorem cN.mono(x:Ext g g'){v:Option V}{r:Option Value}(q:cN c g v r):cN c g' v r:=by
 cases v with
 |none=>exact q
 |some v=>obtain⟨r',e,h⟩:=q;exact⟨r',e,h.mono x⟩
theorem FR.mono(x:Ext g g'){v:Nat×V}{r:adZ}(q:FR c g v r):FR c g' v r:=by
 obtain⟨a,t,hs,r,e,h,h'⟩:=q
 exact⟨a,t,hs,r,e,h,h'.mono x⟩
theorem pU{α:Sort _}{A B B':α->Prop}(f:∀ a,B a->B' a)(h:∃ a,A a∧B a):∃ a,A a∧B' a:=by
 obtain⟨a,h⟩:=h;exact⟨a,h.1,f a h.2⟩
theorem pV{α β:Sort _}{A:α->β->Prop}{B B':α->Prop}(f:∀ a,B a->B' a)(h:∃ a,∃ b,A a b∧B a):∃ a,∃ b,A a b∧B' a:=by
 obtain⟨a,h⟩:=h;exact⟨a,pU (A:=A a) (B:=λ_=>B a) (λ_=>f a) h⟩
theorem b5.mono(x:Ext g g'){p:Addr×Addr}{o:O}{ob:Obj}(q:b5 c g p o ob):b5 c g' p o ob:=by
 revert q
 exact O.casesOn (motive:=λo=>b5 c g p o ob->b5 c g' p o ob) o (λ_=>pV λ_=>aA.mono x) (λ_=>pV λ_=>aA.mono x) (λ_=>pU λ_=>aQ.imp λ_ _ q=>⟨q.1,q.2.mono x⟩) (λn=>λq=>q) (λx0 x1=>λq=>q) (λx0=>λq=>q) (λ_=>pU λ_=>cN.mono x) (λx0 x1 x2=>λq=>q)
theorem gL.mono(x:Ext g g'){fs:List (Nat×V)}{ob:Obj}:gL c g fs ob->gL c g' fs ob:=pV λ_=>aQ.imp λ_ _=>FR.mono x
abbrev dq:List Cell->List Cell->Prop:=aQ λx y=>x.1=y.1∧∀ o,x.2 o->y.2 o
theorem dq.refl:∀ l:List Cell,dq l l
 | []=>.nil
 |_::l=>.cons ⟨rfl,λ_ q=>q⟩ (dq.refl l)
theorem dq.append{a b a' b':List Cell}(x:dq a a')(y:dq b b'):dq (a++b) (a'++b'):=by
 exact aQ.fold x y λ_ _ _ _ p _ ih=>.cons p ih
theorem dq.addrs{a b:List Cell}(x:dq a b):b.map (·.1)=a.map (·.1):=aQ.fold x rfl λ_ _ _ _ p _ ih=>ain.mpr ⟨p.1.symm,ih⟩
theorem dq.back{a b:List Cell}(x:dq a b){y:Cell}:y∈b->∃ z∈a,z.1=y.1∧∀ o,z.2 o->y.2 o:=
 aQ.fold x (λh=>nomatch h) λ_ _ _ _ p _ ih hy=>(acB.mp hy).elim (λe=>e▸⟨_,.head _,p⟩) λhy=>let ⟨z,hz,q⟩:=ih hy;⟨z,.tail _ hz,q⟩
theorem AQ(x:Ext g g')(a:Addr)(o:O):dq (lM c g a o) (lM c g' a o):=
 O.casesOn (motive:=λo=>dq (lM c g a o) (lM c g' a o)) o (λx0=>.nil) (λx0=>.nil) (λx0=>.nil) (λx0=>.nil) (λC fs=>.cons ⟨rfl,λ_ q=>gL.mono (c:=c) x q⟩ .nil) (λx0=>.nil) (λx0=>.nil) (λx0 x1 x2=>.nil)
theorem AR(x:Ext g g')(p:Addr×Addr)(o:O):dq (dO c g p o) (dO c g' p o):=.cons ⟨rfl,λ_=>b5.mono x⟩ (AQ x _ o)
theorem uD(x:Ext g g'):∀ (ps:List (Addr×Addr)) (H:Hp),dq (dm c g ps H) (dm c g' ps H)
 | [],_=>.nil
 |_::_,[]=>.nil
 |p::ps,o::os=>(AR x p o).append (uD x ps os)
theorem AS{c:Cx}{g:Gs}{p:Addr×Addr}{o:O}{ps:List (Addr×Addr)}:∀ {H:Hp},ps.length=H.length->dm c g (ps++[p]) (H++[o])=dm c g ps H++dO c g p o:=by
 induction ps with
 |nil=>exactλ{H} e=>by cases H with |nil=>exact aar _ |cons _ _=>contradiction
 |cons q ps ih=>
  intro H e
  cases H with
  |nil=>contradiction
  |cons x os=>exact(congrArg (dO c g q x++·) (ih (acu.inj e))).trans (aaf _ _ _).symm
theorem uE{c:Cx}{g:Gs}{p:Addr×Addr}{o:O}{ps:List (Addr×Addr)}:∀ {H:Hp} {i:Nat},ps[i]? =some p->H[i]? =some o->bT λl1 l2=>∀ o',dm c g ps (H.set i o')=l1++dO c g p o'++l2:=by
 induction ps with
 |nil=>exactλhp=>nomatch hp
 |cons q ps ih=>
   intro H i hp ho
   cases H with
   |nil=>contradiction
   |cons x os=>
    cases i with
    |zero=>exact⟨[],dm c g ps os,λo'=>by rw[aae.inj hp];rfl⟩
    |succ i=>
     obtain⟨l1,l2,e⟩:=ih (H:=os) (i:=i) hp ho
     exact⟨dO c g q x++l1,l2,λo'=>(congrArg (dO c g q x++·) (e o')).trans (by simp only[aaf])⟩
theorem set_same{H:Hp}{i:Nat}{o:O}(ho:H[i]? =some o):H.set i o=H:=by
 obtain⟨hi,e⟩:=aan.mp ho
 simp only[<-e,List.set_getElem_self]
theorem Inv.keeps(I:Inv c g H h)(k:∀ b o,h.get? b=some o->h'.get? b=some o):Inv c g H h':=
 ⟨λb o e=>k _ _ (I.base b o e),I.above,I.len,λx hx=>let ⟨o,e,q⟩:=I.sat x hx;⟨o,k _ _ e,q⟩,I.dp,I.low⟩
theorem pW{i:Nat}{p:Addr×Addr}{o:O}(hp:g.ρ[i]? =some p)(ho:H[i]? =some o):bT λl1 l2=>∀ o',cells c g (H.set i o')=(c.N,b9 g.m)::(l1++(dO c g p o'++l2)):=by
 obtain⟨l1,l2,e⟩:=uE (c:=c) (g:=g) hp ho
 refine⟨gp c++l1,l2,λo'=>?_⟩
 unfold cells
 simp only[e o',aaf]
theorem pX{i:Nat}{o:O}{l:List Cell}(ho:H[i]? =some o)(e:cells c g (H.set i o)=l):cells c g H=l:=set_same ho▸e
theorem pY{p:Addr×Addr}{i:Nat}{o:O}{x:Cell}(hp:g.ρ[i]? =some p)(ho:H[i]? =some o)(hx:x∈dO c g p o):x∈cells c g H:=by
 obtain⟨l1,l2,e⟩:=pW (c:=c) (g:=g) hp ho
 exact pX ho (e o)▸.tail _ (aac _ (aao _ hx))
theorem ny(p:Addr×Addr)(o:O):(p.1,b5 c g p o)∈dO c g p o:=.head _
theorem Inv.obj(I:Inv c g H h){i:Nat}{o:O}{p:Addr×Addr}(hp:g.ρ[i]? =some p)(ho:H[i]? =some o):∃ ob,h.get? p.1=some ob∧b5 c g p o ob:=
 I.sat _ (pY hp ho (ny p o))
theorem Inv.aux(I:Inv c g H h){i:Nat}{C:Addr}{fs:List (Nat×V)}{p:Addr×Addr}(hp:g.ρ[i]? =some p)(ho:H[i]? =some (.inst C fs)):∃ ob,h.get? p.2=some ob∧gL c g fs ob:=
 I.sat _ (pY hp ho (.tail _ (.head _)))
theorem Inv.ns(I:Inv c g H h):h.Ns c.N g.m:=by
 obtain⟨o,e,es,ep,q⟩:=I.sat _ (.head _)
 exact⟨o,es,ep,e,q⟩
theorem Inv.fr(I:Inv c g H h):Fr c.b₀ c.N h g.m:=⟨I.ns,I.base,I.above⟩
def Sat(h:Heap)(x:Cell):Prop:=∃ o,h.get? x.1=some o∧x.2 o
theorem uF{h h':Heap}{a:Addr}{l:List Cell}(hs:∀ b o,b≠a->h.get? b=some o->h'.get? b=some o)(S:∀ x∈l,Sat h x)(n:∀ x∈l,x.1≠a):∀ x∈l,Sat h' x:=λx hx=>let ⟨o,q⟩:=S x hx;⟨o,hs _ _ (n x hx) q.1,q.2⟩
theorem uG{l1 l2:List Cell}{x:Cell}(n:((l1++x::l2).map (·.1)).Nodup):(∀ y∈l1,y.1≠x.1)∧∀ y∈l2,y.1≠x.1:=by
 rw[aaq]at n
 have n:=aaW.mp n
 exact⟨λy hy=>n.2.2 _ (abp hy) _ (.head _),λy hy e=>(aaI.mp n.2.1).1 (aau.mpr ⟨y,hy,e⟩)⟩
theorem pZ{l1 l2:List Cell}{a:Addr}{P P':Obj->Prop}:(l1++(a,P')::l2).map (·.1)=(l1++(a,P)::l2).map (·.1):=by rw[aaq,aaq];rfl
theorem qa{l1 l2:List Cell}{x y:Cell}{Q:Cell->Prop}(h:∀ z∈l1++x::l2,Q z)(hy:Q y):∀ z∈l1++y::l2,Q z:=
 have h:=abd.mp h
 abd.mpr ⟨h.1,aas.mpr ⟨hy,λz hz=>h.2 z (.tail _ hz)⟩⟩
theorem uH{h h':Heap}{l1 l2:List Cell}{a:Addr}{P P':Obj->Prop}{ob:Obj}(S:∀ x∈l1++(a,P)::l2,Sat h x)(n:((l1++(a,P)::l2).map (·.1)).Nodup)
  (hs:∀ b o,b≠a->h.get? b=some o->h'.get? b=some o) (hob:h'.get? a=some ob) (hP:P' ob):∀ x∈l1++(a,P')::l2,Sat h' x:=
 have S:=abd.mp S
 have n:=uG n
 abd.mpr ⟨uF hs S.1 n.1,aas.mpr ⟨⟨ob,hob,hP⟩,uF hs (λz hz=>S.2 z (.tail _ hz)) n.2⟩⟩
theorem Inv.turn{g₁:Gs}{H₁:Hp}{l1 l2:List Cell}{a:Addr}{P P':Obj->Prop}{ob:Obj}(I:Inv c g H h)(e:cells c g H=l1++(a,P)::l2)(e':cells c g₁ H₁=l1++(a,P')::l2)
  (hl:g₁.ρ.length=H₁.length) (hs:∀ b o,b≠a->h.get? b=some o->h'.get? b=some o) (hob:h'.get? a=some ob) (hP:P' ob):Inv c g₁ H₁ h':=
 have S:=e▸I.sat
 have W:=e▸I.low
 have N:=e▸I.dp
 have w:c.b₀.get? a=none:=W (a,P) (aac _ (.head _))
 ⟨λb o q=>hs b o (λz=>nomatch (z▸w).symm.trans q) (I.base b o q),I.above,hl,e'▸uH S N hs hob hP,by rw[e',pZ (P:=P)];exact N,e'▸qa (y:=(a,P')) W w⟩
noncomputable def O.dX (o:O):Bool:=o.ctorIdx==4
theorem nz(p:Addr×Addr){o:O}(n:o.dX=false):dO c g p o=[(p.1,b5 c g p o)]:=by
 revert n
 exact O.casesOn (motive:=λo=>o.dX=false->dO c g p o=[(p.1,b5 c g p o)]) o (λx0=>λq=>rfl) (λx0=>λq=>rfl) (λx0=>λq=>rfl) (λx0=>λq=>rfl) (λC fs=>λq=>nomatch q) (λx0=>λq=>rfl) (λx0=>λq=>rfl) (λx0 x1 x2=>λq=>rfl)
theorem Inv.putK{i:Nat}{p:Addr×Addr}{o o':O}{ob:Obj}(I:Inv c g H h)(hp:g.ρ[i]? =some p)(ho:H[i]? =some o)(n1:o.dX=false)(n2:o'.dX=false)
  (hs:∀ b o,b≠p.1->h.get? b=some o->h'.get? b=some o) (hob:h'.get? p.1=some ob) (hP:b5 c g p o' ob):Inv c g (H.set i o') h':=by
 obtain⟨l1,l2,e⟩:=pW (c:=c) (g:=g) hp ho
 exact I.turn (l1:=(c.N,b9 g.m)::l1) (l2:=l2) (pX ho ((e o).trans (congrArg (λz=>_::(l1++(z++l2))) (nz p n1)))) ((e o').trans (congrArg (λz=>_::(l1++(z++l2))) (nz p n2))) (I.len.trans adu.symm) hs hob hP
theorem Inv.put{i:Nat}{p:Addr×Addr}{o o':O}{ob:Obj}(I:Inv c g H h)(hp:g.ρ[i]? =some p)(ho:H[i]? =some o)(n1:o.dX=false)(n2:o'.dX=false)
  (hs:∀ b,b≠p.1->h'.get? b=h.get? b) (hob:h'.get? p.1=some ob) (hP:b5 c g p o' ob):Inv c g (H.set i o') h':=I.putK hp ho n1 n2 (λb o hb e=>(hs b hb).trans e) hob hP
def bc(c:Cx)(g:Gs)(H:Hp)(a:Addr):Prop:=(∀ x∈cells c g H,x.1≠a)∧c.b₀.get? a=none
theorem Inv.free{a:Addr}(I:Inv c g H h)(hf:h.get? a=none):bc c g H a:=by
 refine⟨λx hx e=>?_,?_⟩
 ·obtain⟨o,q,_⟩:=I.sat x hx
  rw[e,hf]at q;contradiction
 ·cases q:c.b₀.get? a with
  |none=>rfl
  |some o=>have:=I.base _ _ q;rw[hf]at this;contradiction
theorem dP(h:Heap):h.get? h.objs.size=none:=by
 cases q:h.get? h.objs.size with
 |none=>rfl
 |some o=>exact absurd (abN q) (aeC _)
theorem ko{h:Heap}{a:Addr}(ha:h.objs.size<=a):h.get? a=none:=by
 cases q:h.get? a with
 |none=>rfl
 |some o=>exact absurd (abV (abN q) ha) (aeC _)
theorem dq.sat{l l':List Cell}(w:dq l l')(S:∀ x∈l,Sat h x):∀ x∈l',Sat h x:=λx hx=>let ⟨z,hz,e1,e2⟩:=w.back hx;let ⟨o,q⟩:=S z hz;⟨o,e1▸q.1,e2 _ q.2⟩
theorem dq.all{l l':List Cell}(w:dq l l'){Q:Addr->Prop}(S:∀ x∈l,Q x.1):∀ x∈l',Q x.1:=λx hx=>let ⟨z,hz,e1,_⟩:=w.back hx;e1▸S z hz
noncomputable abbrev Gs.lay (g:Gs) (p:Addr×Addr):Gs:={g with ρ:=g.ρ++[p]}
theorem fc(g:Gs)(p:Addr×Addr):Ext g (g.lay p):=⟨ahO ..⟩
noncomputable def qb (c:Cx) (g:Gs) (p:Addr×Addr) (H:Hp):List Cell:=(c.N,b9 g.m)::(gp c++dm c (g.lay p) g.ρ H)
theorem uI{p:Addr×Addr}{o:O}(I:Inv c g H h):cells c (g.lay p) (H++[o])=qb c g p H++dO c (g.lay p) p o:=
 congrArg (λl=>(c.N,b9 g.m)::(gp c++l)) (AS I.len) |>.trans (congrArg (abU _) (aaf _ _ _).symm)
theorem uJ{p:Addr×Addr}:dq (cells c g H) (qb c g p H):=.cons ⟨rfl,λ_ q=>q⟩ ((dq.refl _).append (uD (fc g p) _ _))
theorem Inv.lay{p:Addr×Addr}{o:O}(I:Inv c g H h)
  (dp:((dO c (g.lay p) p o).map (·.1)).Nodup)
  (new:∀ x∈dO c (g.lay p) p o,bc c g H x.1∧∃ ob,h.get? x.1=some ob∧x.2 ob):
  Inv c (g.lay p) (H++[o]) h:=
 have wk:dq (cells c g H) (qb c g p H):=uJ
 have ce:=uI (p:=p) (o:=o) I
 ⟨I.base,I.above,(aag).trans ((congrArg (·+1) I.len).trans (aag (as:=H) (bs:=[o])).symm),ce▸abd.mpr ⟨wk.sat I.sat,λx hx=>(new x hx).2⟩,by
  rw[ce,aaq]
  refine aaW.mpr ⟨wk.addrs▸I.dp,dp,λa ha b hb e=>?_⟩
  obtain⟨y,hy,rfl⟩:=aau.mp ha
  obtain⟨y',hy',rfl⟩:=aau.mp hb
  exact wk.all (Q:=(·≠y'.1)) (new y' hy').1.1 y hy e,ce▸abd.mpr ⟨wk.all (Q:=λa=>c.b₀.get? a=none) I.low,λx hx=>(new x hx).1.2⟩⟩
theorem Inv.jx{a:Addr}{o:O}{ob:Obj}(I:Inv c g H h)(hf:bc c g H a)(n:o.dX=false)
  (ha:h.get? a=some ob) (hP:b5 c (g.lay (a,a)) (a,a) o ob):Inv c (g.lay (a,a)) (H++[o]) h:=
 have e:=nz (c:=c) (g:=g.lay (a,a)) (a,a) n
 I.lay (by rw[e];exact aaI.mpr ⟨λq=>(nomatch q),abC⟩) (by rw[e];exact aas.mpr ⟨⟨hf,ob,ha,hP⟩,λ_ q=>(nomatch q)⟩)
theorem AU{m':Str->Option Value}(ps:List (Addr×Addr))(H:Hp):dm c {g with m:=m'} ps H=dm c g ps H:=by
 induction ps generalizing H with
 |nil=>rfl
 |cons p ps ih=>
  cases H with
  |nil=>rfl
  |cons o os=>exact congrArg (dO c g p o++·) (ih os)
theorem qc{m':Str->Option Value}:cells c {g with m:=m'} H=(c.N,b9 m')::(gp c++dm c g g.ρ H):=by
 show(c.N,b9 m')::(gp c++dm c {g with m:=m'} g.ρ H)=_
 rw[AU]
theorem Inv.uK{m':Str->Option Value}(I:Inv c g H h)(hs:∀ b,b≠c.N->h'.get? b=h.get? b)(hn:h'.Ns c.N m'):Inv c {g with m:=m'} H h':=by
 obtain⟨o,es,ep,e,q⟩:=hn
 exact I.turn (g₁:={g with m:=m'}) (l1:=[]) (l2:=gp c++dm c g g.ρ H) (P:=b9 g.m) (P':=b9 m') rfl qc I.len (λb o hb e=>(hs b hb).trans e) e ⟨es,ep,q⟩
theorem qd{D:Addr->Prop}{L:List Cell}(S:∀ x∈L,Sat h x)(w:∀ x∈L,D x.1):∃ news:List (Addr×Obj),(∀ p∈news,h.get? p.1=some p.2∧D p.1)∧∀ h':Heap,(∀ p∈news,h'.get? p.1=some p.2)->∀ x∈L,Sat h' x:=by
 induction L with
 |nil=>exact⟨[],λ_ q=>(nomatch q),λ_ _ _ q=>(nomatch q)⟩
 |cons x L ih=>
  obtain⟨news,k1,k2⟩:=ih (λy hy=>S y (.tail _ hy)) λy hy=>w y (.tail _ hy)
  obtain⟨o,q⟩:=S x (.head _)
  exact⟨(x.1,o)::news,aas.mpr ⟨⟨q.1,w x (.head _)⟩,k1⟩,λh' N=>aas.mpr ⟨⟨o,N _ (.head _),q.2⟩,k2 h' λp hp=>N p (.tail _ hp)⟩⟩
theorem Fr.sat{b₀:Heap}{N:Addr}{m:Str->Option Value}(F:Fr b₀ N h m):Sat h (N,b9 m):=by
 obtain⟨o,es,ep,e,q⟩:=F.ns
 exact⟨o,e,es,ep,q⟩
theorem Inv.ledger(I:Inv c g H h):∃ news,News c.b₀ c.N h news∧∀ h' m',Fr c.b₀ c.N h' m'->News c.b₀ c.N h' news->Inv c {g with m:=m'} H h':=by
 have n:=aaI.mp I.dp
 obtain⟨news,k1,k2⟩:=qd (D:=λb=>b≠c.N∧c.b₀.get? b=none) (λx hx=>I.sat x (.tail _ hx)) λx hx=>⟨λe=>n.1 (aau.mpr ⟨x,hx,e⟩),I.low x (.tail _ hx)⟩
 refine⟨news,k1,λh' m' F N=>⟨F.keep,F.above,I.len,?_,?_,?_⟩⟩<;>rw[qc]
 ·exact aas.mpr ⟨Fr.sat F,k2 h' λp hp=>(N p hp).1⟩
 ·exact I.dp
 ·exact aas.mpr ⟨I.low (c.N,b9 g.m) (.head _),λx hx=>I.low x (.tail _ hx)⟩
end
theorem ai{α:Type}{a:α}{p:Prop}(e:none=some a):p:=by contradiction
theorem g9{v:V}{x:Int}:jk v=some x->v=.int x:=
 V.casesOn (motive:=λv=>jk v=some x->v=.int x) v ai (λ_=>ai) (λ_ e=>congrArg V.int (aae.inj e)) (λ_=>ai) (λ_=>ai) (λ_=>ai) (λ_=>ai) (λ_=>ai) (λ_=>ai) (λ_=>ai)
theorem qe{v:V}{x:Bool}:lu v=some x->v=.bool x:=
 V.casesOn (motive:=λv=>lu v=some x->v=.bool x) v ai (λ_ e=>congrArg V.bool (aae.inj e)) (λ_=>ai) (λ_=>ai) (λ_=>ai) (λ_=>ai) (λ_=>ai) (λ_=>ai) (λ_=>ai) (λ_=>ai)
theorem hH{v:V}{x:Nat}:jl v=some x->v=.ref x:=
 V.casesOn (motive:=λv=>jl v=some x->v=.ref x) v ai (λ_=>ai) (λ_=>ai) (λ_=>ai) (λ_=>ai) (λ_ e=>congrArg V.ref (aae.inj e)) (λ_=>ai) (λ_=>ai) (λ_=>ai) (λ_=>ai)
theorem nA{v:V}{x:By}:lx v=some x->v=.bytes x:=
 V.casesOn (motive:=λv=>lx v=some x->v=.bytes x) v ai (λ_=>ai) (λ_=>ai) (λ_=>ai) (λ_ e=>congrArg V.bytes (aae.inj e)) (λ_=>ai) (λ_=>ai) (λ_=>ai) (λ_=>ai) (λ_=>ai)
theorem uL{v:V}{x:Addr}:pk v=some x->v=.ah x:=
 V.casesOn (motive:=λv=>pk v=some x->v=.ah x) v ai (λ_=>ai) (λ_=>ai) (λ_=>ai) (λ_=>ai) (λ_=>ai) (λ_ e=>congrArg V.ah (aae.inj e)) (λ_=>ai) (λ_=>ai) (λ_=>ai)
theorem AV{v:V}{x:Nat}:toS v=some x->v=.str x:=
 V.casesOn (motive:=λv=>toS v=some x->v=.str x) v ai (λ_=>ai) (λ_=>ai) (λ_ e=>congrArg V.str (aae.inj e)) (λ_=>ai) (λ_=>ai) (λ_=>ai) (λ_=>ai) (λ_=>ai) (λ_=>ai)
theorem AW{v:V}{x:String}:toT v=some x->v=.ty x:=
 V.casesOn (motive:=λv=>toT v=some x->v=.ty x) v ai (λ_=>ai) (λ_=>ai) (λ_=>ai) (λ_=>ai) (λ_=>ai) (λ_=>ai) (λ_ e=>congrArg V.ty (aae.inj e)) (λ_=>ai) (λ_=>ai)
theorem uM{v:V}{x:Unit}:toN v=some x->v=.none:=
 V.casesOn (motive:=λv=>toN v=some x->v=.none) v (λe=>rfl) (λ_=>ai) (λ_=>ai) (λ_=>ai) (λ_=>ai) (λ_=>ai) (λ_=>ai) (λ_=>ai) (λ_=>ai) (λ_=>ai)
theorem ku{v:O}{x:List V}:jj v=some x->v=.list x:=
 O.casesOn (motive:=λv=>jj v=some x->v=.list x) v (λ_ e=>congrArg O.list (aae.inj e)) (λ_=>ai) (λ_=>ai) (λ_=>ai) (λ_ _=>ai) (λ_=>ai) (λ_=>ai) (λ_ _ _=>ai)
theorem qf{v:O}{x:List V}:oTup v=some x->v=.tuple x:=
 O.casesOn (motive:=λv=>oTup v=some x->v=.tuple x) v (λ_=>ai) (λ_ e=>congrArg O.tuple (aae.inj e)) (λ_=>ai) (λ_=>ai) (λ_ _=>ai) (λ_=>ai) (λ_=>ai) (λ_ _ _=>ai)
theorem AX{v:O}{x:List (Int×V)}:ph v=some x->v=.dict x:=
 O.casesOn (motive:=λv=>ph v=some x->v=.dict x) v (λ_=>ai) (λ_=>ai) (λ_ e=>congrArg O.dict (aae.inj e)) (λ_=>ai) (λ_ _=>ai) (λ_=>ai) (λ_=>ai) (λ_ _ _=>ai)
theorem AY{v:O}{x:By}:pj v=some x->v=.bG x:=
 O.casesOn (motive:=λv=>pj v=some x->v=.bG x) v (λ_=>ai) (λ_=>ai) (λ_=>ai) (λ_=>ai) (λ_ _=>ai) (λ_ e=>congrArg O.bG (aae.inj e)) (λ_=>ai) (λ_ _ _=>ai)
theorem AZ{v:O}{x:Option V}:oCell v=some x->v=.cell x:=
 O.casesOn (motive:=λv=>oCell v=some x->v=.cell x) v (λ_=>ai) (λ_=>ai) (λ_=>ai) (λ_=>ai) (λ_ _=>ai) (λ_=>ai) (λ_ e=>congrArg O.cell (aae.inj e)) (λ_ _ _=>ai)
theorem qg{v:O}{x:Addr×List (Nat×V)}:lr v=some x->v=.inst x.1 x.2:=
 O.casesOn (motive:=λv=>lr v=some x->v=.inst x.1 x.2) v (λ_=>ai) (λ_=>ai) (λ_=>ai) (λ_=>ai) (λ_ _ e=>congrArg (λx:Addr×List (Nat×V)=>O.inst x.1 x.2) (aae.inj e)) (λ_=>ai) (λ_=>ai) (λ_ _ _=>ai)
section
variable {α β γ:Type} {st st':St}
def Still(F:M α):Prop:=∀ st,(∃ r,F st=.ok r st)∨F st=.no
theorem Still.pure(a:α):Still (aak a:M α):=λ_=>.inl ⟨a,rfl⟩
theorem Still.no:Still (Lite.no:M α):=λ_=>.inr rfl
theorem Still.aG(o:Option α):Still (Lite.aG o):=λ_=>by cases o with |none=>exact .inr rfl |some a=>exact .inl ⟨a,rfl⟩
theorem qh(F:M α)(k:α->M β)(st:St):(F>>=k) st=M.bind F k st:=rfl
theorem Still.bind{F:M α}{k:α->M β}(h:Still F)(hk:∀ a,Still (k a)):Still (F>>=k):=λst=>by
 rw[qh];unfold M.bind
 rcases h st with ⟨r,e⟩ |e
 ·rw[e];exact hk r st
 ·rw[e];exact .inr rfl
theorem Still.inv{F:M α}{k:α->M β}{r:β}(h:Still F)(e:(F>>=k) st=.ok r st'):∃ x,F st=.ok x st∧k x st=.ok r st':=by
 rw[qh]at e;unfold M.bind at e
 rcases h st with ⟨x,q⟩ |q
 ·rw[q]at e;exact⟨x,q,e⟩
 ·rw[q]at e;contradiction
theorem ky{o:Option γ}{k:γ->M β}{r:β}(e:(Lite.aG o>>=k) st=.ok r st'):∃ x,o=some x∧k x st=.ok r st':=by
 cases o with
 |none=>contradiction
 |some x=>exact⟨x,rfl,e⟩
theorem nB{o:Option γ}{r:γ}(e:Lite.aG o st=.ok r st'):o=some r:=by
 cases o with
 |none=>contradiction
 |some x=>cases e;rfl
theorem hJ{a r:α}(e:(aak a:M α) st=.ok r st'):r=a:=by cases e;rfl
theorem fD(b:Bool):Still (Lite.guard b):=λ_=>by cases b with |false=>exact .inr rfl |true=>exact .inl ⟨(),rfl⟩
theorem hU{b:Bool}{r:Unit}(e:Lite.guard b st=.ok r st'):b=true:=by cases b with |false=>contradiction |true=>rfl
theorem kz{r:α}{p:Prop}(e:(.no:R α)=.ok r st'):p:=by contradiction
theorem uN{a r:α}(e:(aak a:M α) st=.ok r st'):st'=st:=by cases e;rfl
theorem Still.dy(F:O->Option α)(a:Nat):Still (Lite.dy F a):=λst=>by
 unfold Lite.dy
 cases st.H[a]?.bind F with
 |none=>exact .inr rfl
 |some x=>exact .inl ⟨x,rfl⟩
theorem Still.obj(a:Nat):Still (Lite.obj a):=λst=>by
 unfold Lite.obj
 cases st.H[a]? with
 |none=>exact .inr rfl
 |some x=>exact .inl ⟨x,rfl⟩
theorem uO{F:O->Option α}{a:Nat}{r:α}(e:Lite.dy F a st=.ok r st'):∃ o,st.H[a]? =some o∧F o=some r:=by
 unfold Lite.dy at e
 cases h:st.H[a]?.bind F with
 |none=>rw[h]at e;contradiction
 |some x=>rw[h]at e;cases e;exact aaj.mp h
theorem uP{a:Nat}{r:O}(e:Lite.obj a st=.ok r st'):st.H[a]? =some r:=by
 unfold Lite.obj at e
 cases h:st.H[a]? with
 |none=>rw[h]at e;contradiction
 |some x=>rw[h]at e;cases e;rfl
end
structure Am where
 c:Cx
 sc:Scope
 env:Env
 A:aaY
 L:Addr
 cZ:Env
 outer:List Env
 lv:Bool
 d:Nat
structure uQ(c:Cx)(sc:Scope)(env:Env):Prop where
 kind:env.scope.kind=.function
 loc:∀ x,sc.names.lookup x=some .local->env.kindOf x=some .local
 cx:∀ x,sc.names.lookup x=some .cell∨sc.names.lookup x=some .free->env.kindOf x=some .cell∨env.kindOf x=some .free
 qj:∀ x,sc.names.lookup x=some .globalImplicit->env.kindOf x=some .globalImplicit
 locals:env.locals=c.N
 globals:env.globals=acQ
 builtins:env.builtins=afC
 nd:(sc.names.map (·.1)).Nodup
 nb:∀ q∈sc.names,(q.1==("__debug__":Str))=false∧(q.1==("__classdict__":Str))=false
structure bE(m:Am):Prop where
 env:uQ m.c m.sc m.env
 frames:m.A.frames=some (m.cZ::m.outer)
 ff:m.cZ.frame=some m.L
 fe:m.env.frame=some m.L
 fk:∀ e∈m.cZ::m.outer,e.scope.kind=.function∧∃ a,e.frame=some a∧a∈m.c.N::m.c.fs.map (·.1)
 dep:m.A.depth+4*(m.d+1)<adq
 hV:m.A.units+24*(m.d+1)<cLine
 df:m.lv=true->m.A.handled=none
 fR:m.A.guards=some []
structure Loc(c:Cx)(sc:Scope)(env:Env)(g:Gs)(lo:Lo):Prop where
 len:lo.length=sc.names.length
 loc:∀ (i:Nat) (x:Str) (v:Option V),sc.names[i]? =some (x,aax.local)->lo[i]? =some v->cN c g v (g.m x)
 cx:∀ (i:Nat) (x:Str) (k:aax),sc.names[i]? =some (x,k)->k=.cell∨k=.free->∃ a y z,lo[i]? =some (some (V.ref a))∧g.ρ[a]? =some (y,z)∧env.cells.lookup x=some y
structure Rel(m:Am)(g:Gs)(st:St)(h:Heap):Prop where
 inv:Inv m.c g st.H h
 loc:Loc m.c m.sc m.env g st.lo
structure A0(c:Cx)(g:Gs)(H:Hp)(h:Heap)(e k:Addr)(oe:Obj)(vs:Array Value)(a0:Value):Prop where
 free:bc c g H e
 get:h.get? e=some oe
 cls:oe.cls=.ref k
 data:oe.data=.fields vs
 zero:vs[0]? =some a0
structure A1(c:Cx)(g:Gs)(H:Hp)(h:Heap)(e:Addr)(vs:Array Value)(v:Value)(T:Addr)(oT:Obj)(ts:Array Value):Prop where
 one:vs[1]? =some (.ref T)
 free:bc c g H T
 ne:T≠e
 get:h.get? T=some oT
 data:oT.data=.fields ts
 three:ts[3]? =some v
def A2(c:Cx)(g:Gs)(H:Hp)(h:Heap)(e:Addr)(vs:Array Value)(fl:Option Value):Prop:=ags (motive:=λ_=>Prop) fl (vs[1]? =some .none) λv=>cW λT oT ts=>A1 c g H h e vs v T oT ts
def eF(c:Cx)(g:Gs)(H:Hp)(h:Heap)(e k:Addr)(fl:Option Value):Prop:=cW λoe vs a0=>A0 c g H h e k oe vs a0∧A2 c g H h e vs fl
def ExcAt(c:Cx)(g:Gs)(H:Hp)(h:Heap)(L e k:Addr):Prop:=∃ fl,(fl=none∨fl=some .none∨fl=some (adF L))∧eF c g H h e k fl
def bW{α β:Type}(m:Am)(g:Gs)(r:R α)(rel:Gs->α->β->Prop)(Q:β->Sh)(E:Value->Sh)(s:aaC):Prop:=match r with
 | .ok a st'=>∀ g' h' tk b,Ext g g'->Rel m g' st' h'->rel g' a b->Q b {s with heap:=h',toks:=tk}
 | .exc k st'=>∀ g' h' tk e,Ext g g'->Rel m g' st' h'->ExcAt m.c g' st'.H h' m.L e k->E (.ref e) {s with heap:=h',toks:=tk}
 | .no=>False
def Wp{α β:Type}(m:Am)(g:Gs)(st:St)(t:Sem β)(r:R α)(rel:Gs->α->β->Prop):Prop:=
 ∀ (s:aaC) (Q:β->Sh) (E:Value->Sh),Rel m g st s.heap->bW m g r rel Q E s->wpAny (model m.c.prog m.c.w) m.A t Q E s
def A3{α β:Type}(m:Am)(t:Sem β)(f:M α)(rel:Gs->α->β->Prop):Prop:=∀ g st,Wp m g st t (f st) rel
abbrev Am.VR(m:Am)(g:Gs):V->Value->Prop:=Lite.VR m.c g
abbrev Am.aA(m:Am)(g:Gs):List V->Vs->Prop:=Lite.aA m.c g
def fU:Gs->Bool->Bool->Prop:=λ_ a b=>a=b
def ct:Gs->Unit->Unit->Prop:=λ_ _ _=>True
section
variable {α γ:Type} {st:St} {Pr:R α->Prop}
theorem gM{o:Option γ}{f:γ->M α}(h0:Pr .no)(h:∀ a,o=some a->Pr (f a st)):Pr ((Lite.aG o>>=f) st):=by
 cases o with
 |none=>exact h0
 |some a=>exact h a rfl
theorem jy{F:O->Option γ}{C:γ->O}(hF:∀ {o x},F o=some x->o=C x){a:Nat}{f:γ->M α}(h0:Pr .no)(h:∀ x,st.H[a]? =some (C x)->Pr (f x st)):Pr ((Lite.dy F a>>=f) st):=by
 show Pr (M.bind (Lite.dy F a) f st)
 unfold M.bind Lite.dy
 cases e:st.H[a]? with
 |none=>exact h0
 |some o=>
  dsimp only[ahi]
  cases e':F o with
  |none=>exact h0
  |some x=>exact h x (e.trans (congrArg some (hF e')))
theorem gq{F:M γ}{f:γ->M α}(hF:Still F)(h0:Pr .no)(h:∀ x,F st=.ok x st->Pr (f x st)):Pr ((F>>=f) st):=by
 rw[qh];unfold M.bind
 rcases hF st with ⟨x,e⟩ |e
 ·rw[e];exact h x e
 ·rw[e];exact h0
theorem uR{a:Nat}{f:O->M α}(h0:Pr .no)(h:∀ o,st.H[a]? =some o->Pr (f o st)):Pr ((Lite.obj a>>=f) st):=by
 show Pr (M.bind (Lite.obj a) f st)
 unfold M.bind Lite.obj
 cases e:st.H[a]? with
 |none=>exact h0
 |some o=>exact h o e
end
section
variable {α β γ δ:Type} {m:Am} {g:Gs} {st:St}
theorem bW.shift{r:R α}{rel:Gs->α->β->Prop}{Q:β->Sh}{E:Value->Sh}{s:aaC}{g₁:Gs}(x:Ext g g₁){h:Heap}{tk:Tok}
  (P:bW m g r rel Q E s):bW m g₁ r rel Q E {s with heap:=h,toks:=tk}:=by
 cases r with
 |ok a st'=>exactλg' h' tk' b e R q=>P g' h' tk' b (x.trans e) R q
 |exc k st'=>exactλg' h' tk' b e R q=>P g' h' tk' b (x.trans e) R q
 |no=>exact P.elim
theorem cb{f:M α}{k:α->M β}{a:α}{st₁:St}(e:f st=.ok a st₁):(f>>=k) st=k a st₁:=by
 show M.bind f k st=_
 unfold M.bind;rw[e]
theorem fV{f:M α}{k:α->M β}{a:Addr}{st₁:St}(e:f st=.exc a st₁):(f>>=k) st=.exc a st₁:=by
 show M.bind f k st=_
 unfold M.bind;rw[e]
theorem eG{f:M α}{k:α->M β}(e:f st=.no):(f>>=k) st=.no:=by
 show M.bind f k st=_
 unfold M.bind;rw[e]
theorem Wp.pure{a:α}{b:β}{rel:Gs->α->β->Prop}(q:rel g a b):Wp m g st (aak b:Sem β) ((aak a:M α) st) rel:=
 λs Q E R P=>aai (P g s.heap s.toks b (.refl g) R q)
theorem Wp.no{t:Sem β}{rel:Gs->α->β->Prop}:Wp m g st t (.no:R α) rel:=λ_ _ _ _ P=>P.elim
theorem Wp.intro{t:Sem β}{a:α}{st':St}{rel:Gs->α->β->Prop}
  (h:∀ (s:aaC) (Q:β->Sh) (E:Value->Sh),Rel m g st s.heap->
   (∀ g' h' tk b,Ext g g'->Rel m g' st' h'->rel g' a b->Q b {s with heap:=h',toks:=tk})->wpAny (model m.c.prog m.c.w) m.A t Q E s):Wp m g st t (.ok a st') rel:=h
theorem Wp.aL{b:Bool}{f:Unit->M α}{t:Sem β}{rel:Gs->α->β->Prop}(h:b=true->Wp m g st t (f () st) rel):Wp m g st t ((Lite.guard b>>=f) st) rel:=by
 cases b with
 |false=>exact Wp.no
 |true=>exact h rfl
theorem Wp.aG{o:Option γ}{f:γ->M α}{t:Sem β}{rel:Gs->α->β->Prop}(h:∀ a,o=some a->Wp m g st t (f a st) rel):Wp m g st t ((Lite.aG o>>=f) st) rel:=gM (Pr:=λr=>Wp m g st t r rel) Wp.no h
theorem Wp.lN{o:Option α}{t:Sem β}{rel:Gs->α->β->Prop}(h:∀ a,o=some a->Wp m g st t (.ok a st) rel):Wp m g st t (Lite.aG o st) rel:=by
 cases o with
 |none=>exact Wp.no
 |some a=>exact h a rfl
theorem Wp.bV{a:Nat}{f:List V->M α}{t:Sem β}{rel:Gs->α->β->Prop}(h:∀ x,st.H[a]? =some (.list x)->Wp m g st t (f x st) rel):Wp m g st t ((Lite.bV a>>=f) st) rel:=jy ku (Pr:=λr=>Wp m g st t r rel) Wp.no h
theorem Wp.gH{a:Nat}{f:Addr×List (Nat×V)->M α}{t:Sem β}{rel:Gs->α->β->Prop}(h:∀ C fs,st.H[a]? =some (.inst C fs)->Wp m g st t (f (C,fs) st) rel):Wp m g st t ((Lite.gH a>>=f) st) rel:=jy qg (Pr:=λr=>Wp m g st t r rel) Wp.no λx=>h x.1 x.2
theorem Wp.bI{F:M γ}{f:γ->M α}{t:Sem β}{rel:Gs->α->β->Prop}(hF:Still F)(h:∀ x,F st=.ok x st->Wp m g st t (f x st) rel):Wp m g st t ((F>>=f) st) rel:=gq (Pr:=λr=>Wp m g st t r rel) hF Wp.no h
theorem Wp.obj{a:Nat}{f:O->M α}{t:Sem β}{rel:Gs->α->β->Prop}(h:∀ o,st.H[a]? =some o->Wp m g st t (f o st) rel):Wp m g st t ((Lite.obj a>>=f) st) rel:=uR (Pr:=λr=>Wp m g st t r rel) Wp.no h
theorem Wp.aX{v:V}{f:Int->M α}{t:Sem β}{rel:Gs->α->β->Prop}(h:∀ i,v=.int i->Wp m g st t (f i st) rel):Wp m g st t ((Lite.aX v>>=f) st) rel:=Wp.aG λi e=>h i (g9 e)
theorem Wp.bx{v:V}{f:Nat->M α}{t:Sem β}{rel:Gs->α->β->Prop}(h:∀ i,v=.ref i->Wp m g st t (f i st) rel):Wp m g st t ((Lite.bx v>>=f) st) rel:=Wp.aG λi e=>h i (hH e)
theorem Wp.eZ{v:V}{f:By->M α}{t:Sem β}{rel:Gs->α->β->Prop}(h:∀ i,v=.bytes i->Wp m g st t (f i st) rel):Wp m g st t ((Lite.eZ v>>=f) st) rel:=Wp.aG λi e=>h i (nA e)
theorem Rel.keeps{h h':Heap}(R:Rel m g st h)(k:∀ b o,h.get? b=some o->h'.get? b=some o):Rel m g st h':=⟨R.inv.keeps k,R.loc⟩
theorem Loc.mono{c:Cx}{sc:Scope}{env:Env}{g g':Gs}{lo:Lo}(l:Loc c sc env g lo)(x:Ext g g')(hm:g'.m=g.m):Loc c sc env g' lo:=
 ⟨l.len,λi y v e e'=>hm▸(l.loc i y v e e').mono x,λi y k e e'=>let ⟨a,u,z,h1,h2,h3⟩:=l.cx i y k e e';⟨a,u,z,h1,x.at h2,h3⟩⟩
theorem Rel.jx{h:Heap}{a:Addr}{o:O}{ob:Obj}(R:Rel m g st h)(hf:bc m.c g st.H a)(n:o.dX=false)
  (ha:h.get? a=some ob) (hP:b5 m.c (g.lay (a,a)) (a,a) o ob):Rel m (g.lay (a,a)) {st with H:=st.H++[o]} h:=
 ⟨R.inv.jx hf n ha hP,R.loc.mono ⟨ahO ..⟩ rfl⟩
theorem Rel.last{h:Heap}{p:Addr×Addr}(R:Rel m g st h):(g.lay p).ρ[st.H.length]? =some p:=by
 show(g.ρ++[p])[st.H.length]? =_
 rw[<-R.inv.len];simp
theorem Rel.put{h h':Heap}{i:Nat}{p:Addr×Addr}{o o':O}{ob:Obj}(R:Rel m g st h)(hp:g.ρ[i]? =some p)(ho:st.H[i]? =some o)(n1:o.dX=false)(n2:o'.dX=false)
  (hs:∀ b,b≠p.1->h'.get? b=h.get? b) (hob:h'.get? p.1=some ob) (hP:b5 m.c g p o' ob):Rel m g {st with H:=st.H.set i o'} h':=⟨R.inv.put hp ho n1 n2 hs hob hP,R.loc⟩
end
section
variable {m:Am} {g:Gs} {st:St}
theorem uS{x:Str}:∀ {l:List (Str×aax)} {i:Nat} {k:aax} {y:Str},l.findIdx? (λp=>p.1==x)=some i->l[i]? =some (y,k)->y=x∧l.lookup x=some k
 | [],_,_,_,e,_=>by simp at e
 | (z,k')::r,i,k,y,e,e'=>by
  rw[ahP]at e
  by_cases h:(z==x)=true
  ·rw[h]at e
   simp only[if_true,aae.injEq]at e
   subst e
   simp only[List.getElem?_cons_zero,aae.injEq,Prod.mk.injEq]at e'
   obtain⟨rfl,rfl⟩:=e'
   have:z=x:=beq_iff_eq.mp h
   subst this
   exact⟨rfl,by rw[aay,beq_self_eq_true]⟩
  ·simp only[h,if_false,aaR,aaK]at e
   obtain⟨j,e1,rfl⟩:=e
   rw[List.getElem?_cons_succ]at e'
   obtain⟨a,b⟩:=uS e1 e'
   refine⟨a,?_⟩
   rw[aay]
   have:(x==z)=false:=by
    cases q:x==z with
    |false=>rfl
    |true=>exact absurd (by rw[beq_iff_eq.mp q];exact beq_self_eq_true _) h
   rw[this];exact b
def A4(sc:Scope)(x:Str)(r:Ref):Prop:=Ref.casesOn (motive:=λ_=>Prop) r (λi=>sc.names[i]? =some (x,.local)∧sc.names.lookup x=some .local)
 (λi=>∃ k,aO (sc.names[i]? =some (x,k)) (k=.cell∨k=.free) (sc.names.lookup x=some .cell∨sc.names.lookup x=some .free)) (sc.names.lookup x=some .globalImplicit∧∃ q∈sc.names,q.1=x) True
theorem nC(sc:Scope)(x:Str):A4 sc x (de sc x):=by
 unfold de
 cases e:sc.names.findIdx? (λp=>p.1==x)with
 |none=>exact trivial
 |some i=>
  dsimp only
  cases e':sc.names[i]? with
  |none=>exact trivial
  |some q=>
   obtain⟨y,k⟩:=q
   obtain⟨rfl,hl⟩:=uS e e'
   cases k with
   | «local»=>exact⟨e',hl⟩
   |cell=>exact⟨_,e',.inl rfl,.inl hl⟩
   |free=>exact⟨_,e',.inr rfl,.inr hl⟩
   |globalExplicit=>exact trivial
   |globalImplicit=>exact⟨hl,_,abw e',rfl⟩
structure kA(c:Cx)(P:a9)(mg mb:Str->Option Value):Prop where
 g:c.b₀.Ns acQ mg
 b:c.b₀.Ns afC mb
 all:∀ x v,P.G.lookup x=some v->∃ r,(∀ g,VR c g v r)∧(mg x=some r∨(mg x=none∧mb x=some r))
theorem uT{P:a9}(sc:Scope)(x:Str)(st:St):(∃ v,name P sc x st=.ok v st)∨name P sc x st=.no:=by
 unfold name
 cases de sc x with
 |bad=>exact .inr rfl
 |loc i=>
  dsimp only[ae]
  cases st.lo[i]? with
  |none=>exact .inr rfl
  |some v=>cases v with
   |none=>exact .inr rfl
   |some v=>exact .inl ⟨v,rfl⟩
 |cx i=>
  dsimp only[dM]
  cases (gI i st).bind (·.2)with
  |none=>exact .inr rfl
  |some v=>exact .inl ⟨v,rfl⟩
 |glob=>
  dsimp only
  cases P.G.lookup x with
  |none=>exact .inr rfl
  |some v=>exact .inl ⟨v,rfl⟩
theorem A5{i:Nat}{st:St}{v:V}(e:ae i st=.ok v st):st.lo[i]? =some (some v):=by
 unfold ae at e
 cases h:st.lo[i]? with
 |none=>rw[h]at e;contradiction
 |some w=>cases w with
  |none=>rw[h]at e;contradiction
  |some w=>rw[h]at e;cases e;rfl
theorem uU{i:Nat}{st:St}{p:Nat×Option V}(e:gI i st=some p):st.lo[i]? =some (some (.ref p.1))∧st.H[p.1]? =some (.cell p.2):=by
 obtain⟨a,h1,h2⟩:=aaj.mp e
 obtain⟨v,h3,h4⟩:=aaj.mp h1
 obtain⟨w,h5,rfl⟩:=aaR.mp h2
 obtain⟨o,h6,h7⟩:=aaj.mp h5
 rw[AZ h7]at h6
 rw[hH h4]at h3
 exact⟨Option.join_eq_some_iff.mp h3,h6⟩
theorem A6{i:Nat}{st:St}{v:V}(e:dM i st=.ok v st):∃ k,gI i st=some (k,some v):=by
 unfold dM at e
 cases h:gI i st with
 |none=>rw[h]at e;contradiction
 |some p=>
  obtain⟨a,w⟩:=p
  cases w with
  |none=>rw[h]at e;contradiction
  |some w=>rw[h]at e;cases e;exact⟨a,rfl⟩
theorem qk{a b:Nat}(e:V.ref a=V.ref b):a=b:=aae.inj (congrArg jl e)
theorem A7{M:Model}{A:aaY}{E:Value->Sh}{s:aaC}{env:Env}{x:Str}{Q:Value->Sh}(hk:env.scope.kind=.function)(hx:env.kindOf x=some .globalImplicit)(h:wpAny M A (loadGlobal env x) Q E s)(hd:(x==("__debug__":Str))=false):wpAny M A (loadName env x) Q E s:=λΓ p hΓ=>by
 have w:=Name_function_global (pos:=p) hk hx h hd Γ p hΓ
 rw[eval_Name env x p hd,afY]at w
 exact w
theorem ql{P:a9}{mg mb:Str->Option Value}(G:kA m.c P mg mb)(O:bE m){x:Str}{v:V}(e:name P m.sc x st=.ok v st):(x==("__debug__":Str))=false∧
  ∀ (s:aaC) (Q:Value->Sh) (E:Value->Sh),Rel m g st s.heap->(∀ r,m.VR g v r->Q r s)->wpAny (model m.c.prog m.c.w) m.A (loadName m.env x) Q E s:=by
 have nr:=nC m.sc x
 unfold name at e
 generalize de m.sc x=r at nr e
 cases r with
 |bad=>contradiction
 |loc i=>
  have hv:=A5 e
  refine⟨(O.env.nb _ (abw nr.1)).1,λs Q E R k=>?_⟩
  obtain⟨r,hm,z⟩:=R.loc.loc i x _ nr.1 hv
  exact wpAny_loadName_local O.env.kind (O.env.loc x nr.2) (O.env.locals▸R.inv.ns) hm (k r z)
 |cx i=>
  obtain⟨_,a,hk,b⟩:=nr
  obtain⟨kk,hc⟩:=A6 e
  have hd:=O.env.nb _ (abw a)
  refine⟨hd.1,λs Q E R k=>?_⟩
  obtain⟨aa,y,z,e1,e2,e3⟩:=R.loc.cx i x _ a hk
  obtain⟨c1,c2⟩:=uU hc
  rw[<-qk (aae.inj (aae.inj (e1.symm.trans c1)))]at c2
  obtain⟨ob,h1,_,h2,r,rfl,h3⟩:=R.inv.obj e2 c2
  rcases O.env.cx x b with w |w
  ·exact wpAny_loadName_cell O.env.kind w e3 ⟨ob,h1,h2⟩ (k r h3)
  ·exact wpAny_loadName_free O.env.kind w e3 ⟨ob,h1,h2⟩ (k r h3) hd.2
 |glob=>
  obtain⟨b,q0,hq0,rfl⟩:=nr
  have hd:=(O.env.nb _ hq0).1
  refine⟨hd,λs Q E R k=>?_⟩
  obtain⟨r,h1,h2⟩:=G.all _ _ (nB e)
  have ng:s.heap.Ns m.env.globals mg:=by rw[O.env.globals];exact G.g.keeps R.inv.base
  have nb:s.heap.Ns m.env.builtins mb:=by rw[O.env.builtins];exact G.b.keeps R.inv.base
  refine A7 O.env.kind (O.env.qj _ b) ?_ hd
  rcases h2 with h2 |h2
  ·exact loadGlobal_global ng h2 (k r (h1 g))
  ·exact loadGlobal_builtin ng h2.1 nb h2.2 (k r (h1 g))
theorem Wp.named{P:a9}{x:Str}{t:Sem Value}(h:∀ v,name P m.sc x st=.ok v st->Wp m g st t (.ok v st) m.VR):Wp m g st t (name P m.sc x st) m.VR:=by
 rcases uT (P:=P) m.sc x st with ⟨v,e⟩ |e
 ·rw[e];exact h v e
 ·rw[e];exact Wp.no
theorem uV{P:a9}{mg mb:Str->Option Value}(G:kA m.c P mg mb)(O:bE m)(x:Str)(pos:Pos):A3 m (eval (.Name x pos) m.env) (name P m.sc x) m.VR:=λg st=>
 Wp.named λv e=>have L:=ql (g:=g) G O e;Wp.intro λs Q E R k=>ajI (L.2 s Q E R λr z=>k g s.heap s.toks r (.refl g) R z) L.1
end
section
variable {m:Am} {g:Gs} {st:St} {α:Type}
theorem VR.int_inv{c:Cx}{i:Int}{r:Value}(v:VR c g (.int i) r):∃ t,r=.int i t:=v
theorem VR.bool_inv{c:Cx}{i:Bool}{r:Value}(v:VR c g (.bool i) r):r=.bool i:=v
theorem VR.qm{c:Cx}{i:By}{r:Value}(v:VR c g (.bytes i) r):∃ t,r=.bytes i.toArray t:=v
theorem Wp.val{t:Sem Value}{v:V}(h:∀ (s:aaC) (Q:Value->Sh) (E:Value->Sh),Rel m g st s.heap->(∀ r tk,m.VR g v r->Q r {s with toks:=tk})->wpAny (model m.c.prog m.c.w) m.A t Q E s):
  Wp m g st t (.ok v st) m.VR:=
 λs Q E R P=>h s Q E R λr tk q=>P g s.heap tk r (.refl g) R q
theorem qn{a:Int}(h:a.natAbs<2 ^ 64):aeD a<=64:=by
 refine intBits_le_64 ?_ ?_<;>lia
theorem A8{op:abZ}{a b:Int}{t u:Tok}:Wp m g st (agl op (.int a t) (.int b u)) (pD op a b st) m.VR:=by
 unfold pD
 cases op with
 |Add=>exact Wp.val λs Q E R k=>add_int (k _ _ (.int _ _))
 |Sub=>exact Wp.val λs Q E R k=>sub_int (k _ _ (.int _ _))
 |Mult=>
  refine Wp.aL λhg=>Wp.val λs Q E R k=>mul_int (k _ _ (.int _ _)) ?_
  rcases abq.mp hg with q |q
  ·exact IntMulOk.of_left (qn (of_decide_eq_true q))
  ·exact IntMulOk.of_right (qn (of_decide_eq_true q))
 |FloorDiv=>
  refine Wp.aL λhg=>Wp.val λs Q E R k=>?_
  obtain⟨q1,q2⟩:=aab.mp hg
  have q1:=of_decide_eq_true q1
  have q2:=of_decide_eq_true q2
  refine AutoIntOps.floordiv_1 (by simpa using q1) ?_ (k _ _ (.int _ _))
  unfold aaD.divisionGoesByPylong
  have:¬ ((if (b==0)=true then 0 else b.natAbs.log2/30+1)>300):=by
   rw[if_neg (by simpa using q1)]
   have:b.natAbs.log2<64:=by
    have h0:b.natAbs≠0:=by lia
    exact(ahQ h0).mpr q2
   lia
  simp only[this,decide_false,aiR]
  decide
 |Mod=>
  refine Wp.aL λhg=>Wp.val λs Q E R k=>?_
  exact mod_int' (of_decide_eq_true hg) (k _ _ (.int _ _))
 |Pow=>
  refine Wp.aL λhg=>Wp.val λs Q E R k=>?_
  simp only[abD,decide_eq_true_eq]at hg
  obtain⟨⟨⟨h1,h2⟩,h3⟩,h4⟩:=hg
  by_cases hb:b=0
  ·subst hb
   exact AutoIntOps.pow_0 (by decide) (by decide) (k _ _ (by show VR _ _ (.int (a ^ aiS 0)) _;simp only[show aiS 0=0 from rfl,Int.pow_zero];exact .int _ _))
  ·refine AutoIntOps.pow_4 h1 (by simpa using hb) (by simp;lia) (by simp;lia) ?_ (k _ _ (.int _ _))
   have:=qn (a:=a) (by lia)
   unfold aaD.Int.intTooBig bitsLine
   simp only[decide_eq_true_eq,Nat.reducePow]
   have h5:(aeD a:Int)<=64:=by lia
   have:(aeD a:Int)*b<=64*90:=Int.mul_le_mul h5 h2 h1 (by decide)
   lia
 |LShift=>
  refine Wp.aL λhg=>Wp.val λs Q E R k=>?_
  obtain⟨h1,h2⟩:=aab.mp hg
  obtain⟨h0,h1⟩:=aab.mp h1
  have h1:=of_decide_eq_true h1
  exact lshift_int_small (of_decide_eq_true h0) (by lia) (of_decide_eq_true h2) (k _ _ (.int _ _))
 |BitOr=>exact Wp.val λs Q E R k=>or_int (k _ _ (.int _ _))
 |RShift=>
  refine Wp.aL λhg=>Wp.val λs Q E R k=>?_
  exact rshift_int (of_decide_eq_true hg) (k _ _ (.int _ _))
 |BitAnd=>exact Wp.val λs Q E R k=>and_int (k _ _ (.int _ _))
 |_=>exact Wp.no
theorem uW{op:abZ}{a b:V}{ra rb:Value}(va:m.VR g a ra)(vb:m.VR g b rb):Wp m g st (inplaceOp op ra rb) (cE op a b st) m.VR:=by
 refine Wp.aX λi hi=>Wp.aX λj hj=>?_
 subst hi hj
 obtain⟨t,rfl⟩:=va.int_inv
 obtain⟨u,rfl⟩:=vb.int_inv
 cases op with
 |Add=>exact Wp.val λs Q E R k=>iadd_int (k _ _ (.int _ _))
 |Sub=>exact Wp.val λs Q E R k=>isub_int (k _ _ (.int _ _))
 |_=>exact Wp.no
theorem Inv.list{c:Cx}{H:Hp}{h:Heap}(I:Inv c g H h){a:Nat}{x y:Addr}{xs:List V}(hp:g.ρ[a]? =some (x,y))(ho:H[a]? =some (.list xs)):∃ vs,h.IsList x vs.toArray∧aA c g xs vs:=by
 obtain⟨ob,h1,vs,n,rfl,h4⟩:=I.obj hp ho
 exact⟨vs,⟨_,h1,rfl,n,rfl⟩,h4⟩
theorem Inv.jA{c:Cx}{H:Hp}{h:Heap}(I:Inv c g H h){a:Nat}{x y:Addr}{xs:List V}(hp:g.ρ[a]? =some (x,y))(ho:H[a]? =some (.list xs)):∃ vs n,h.get? x=some {cls:=.type "list",data:=.seq vs.toArray n}∧aA c g xs vs:=by
 obtain⟨ob,h1,vs,n,rfl,h4⟩:=I.obj hp ho
 exact⟨vs,n,h1,h4⟩
theorem aA.append{c:Cx}{xs ys:List V}{vs ws:Vs}(a:aA c g xs vs)(b:aA c g ys ws):aA c g (xs++ys) (vs++ws):=aQ.fold a b λ_ _ _ _ h _ ih=>.cons h ih
theorem aQ.length{α β:Type}{R:α->β->Prop}{xs:List α}{vs:List β}(a:aQ R xs vs):xs.length=vs.length:=aQ.fold a rfl λ_ _ _ _ _ _ ih=>congrArg (·+1) ih
theorem aA.length{c:Cx}{xs:List V}{vs:Vs}(a:aA c g xs vs):xs.length=vs.length:=aQ.length a
theorem aQ.get{α β:Type}{R:α->β->Prop}{xs:List α}{vs:List β}(a:aQ R xs vs){i:Nat}{x:α}(e:xs[i]? =some x):∃ v,vs[i]? =some v∧R x v:=by
 induction a using aQ.ind generalizing i with
 |nil=>exact ai e
 | @cons a b as bs h _ ih=>
  cases i with
  |zero=>exact⟨b,rfl,aae.inj e▸h⟩
  |succ i=>exact ih (i:=i) e
theorem aA.get{c:Cx}{xs:List V}{vs:Vs}(a:aA c g xs vs){i:Nat}{x:V}(e:xs[i]? =some x):∃ v,vs[i]? =some v∧VR c g x v:=aQ.get a e
theorem aA.replicate{c:Cx}{x:V}{v:Value}(h:VR c g x v):∀ n,aA c g (aaT n x) (aaT n v)
 | 0=>.nil
 |n+1=>.cons h (aA.replicate h n)
theorem iN:adV=16777216:=rfl
theorem nD:lim=1048576:=rfl
theorem uX{t:Sem Value}{ys:List V}(h:∀ (s:aaC) (Q:Value->Sh) (E:Value->Sh) (news:List (Addr×Obj)),Rel m g st s.heap->Fr m.c.b₀ m.c.N s.heap g.m->News m.c.b₀ m.c.N s.heap news->
   (∀ h' tk ob,Fr m.c.b₀ m.c.N h' g.m->News m.c.b₀ m.c.N h' ((s.heap.objs.size,ob)::news)->b5 m.c g (0,0) (.list ys) ob->Q (.ref s.heap.objs.size) {s with heap:=h',toks:=tk})->wpAny (model m.c.prog m.c.w) m.A t Q E s):
  Wp m g st t (.ok (.ref st.H.length) {st with H:=st.H++[.list ys]}) m.VR:=by
 refine Wp.intro λs Q E R k=>?_
 obtain⟨news,N,back⟩:=R.inv.ledger
 refine h s Q E news R R.inv.fr N λh' tk ob F' N' hob=>?_
 have I':Inv m.c g st.H h':=back h' g.m F' λp hp=>N' p (.tail _ hp)
 have R':Rel m g st h':=⟨I',R.loc⟩
 have fr:=R.inv.free (dP s.heap)
 have R2:=R'.jx (o:=.list ys) fr rfl (N' _ (.head _)).1 (b5.mono (fc g _) hob)
 exact k _ h' tk _ (fc g _) R2 (.ref (R'.last))
theorem A9(v:Value)(n:Nat):∀ acc:Array Value,aio (λx1 x2=>x1++x2) acc (aaT n #[v])=acc++(aaT n v).toArray:=by
 induction n with
 |zero=>intro acc;simp
 |succ n ih=>intro acc;simp only[ahw,List.foldl_cons,ih,ahw];apply Array.ext';simp
theorem A'{s:aaC}{A:aaY}{prog:acI}{w:World}{E:Value->Sh}{h₀:Heap}{L:Addr}{mm:Str->Option Value}{news:List (Addr×Obj)}{l:Addr}{items:Array Value}{x:Int}{u:Tok}{Q:Value->Sh}
  (hl:s.heap.IsList l items) (hx:x<2 ^ 40) (hsz:items.size*x.toNat<=2 ^ 21) (hlo: -(2 ^ 40)<=x)
  {Fm:Fr h₀ L s.heap mm} {N:News h₀ L s.heap news}
  (h:∀ h',Fr h₀ L h' mm->News h₀ L h' ((s.heap.objs.size,{cls:=.type "list",data:=.seq (aio (λx1 x2=>x1++x2) #[] (aaT (if items.isEmpty=true then 0 else x.toNat) items))})::news)->Q (.ref s.heap.objs.size) {s with heap:=h'}):
  wpAny (model prog w) A (agl .Mult (.ref l) (.int x u)) Q E s:=by
 obtain⟨⟨oc,od,oda,osl⟩,ho,hc,k,hd⟩:=hl
 dsimp only at hc hd
 subst hc hd
 exact wpAny_binaryOp_repeat_ref (T:="list") (U:="int") (by decide) ⟨_,ho,rfl⟩ (λs'=>ajJ s' x u) noFill_list_mul F.fills_int_mul ajx repeat_list F.slot_int_index.lookup
  (call_meets ajx (ajJ s x u) F.entry_int_rmul (F.args_int_rmul_2 _ _) (lm_int_rmul_list_any x u l items k od osl)
   ⟨ho,rfl,⟨_,ho,rfl⟩,call_meets F.slot_list_mul ⟨_,ho,rfl⟩ F.entry_list_mul (F.args_list_mul_2 _ _)
    (lm_list_mul_any l items k od osl x u (by simp[ajT];lia) (by lia) (by simp[ajU,adV];lia))
    ⟨ho,h _ (Fm.push _) (News.push Fm N _)⟩⟩)
theorem uY{op:abZ}(h:isAdd op=true):op=.Add:=by cases op<;>first |rfl |contradiction
theorem Ba{op:abZ}(h:isMul op=true):op=.Mult:=by cases op<;>first |rfl |contradiction
theorem Bb{a b:Nat}{x y x' y':Addr}(ha:g.ρ[a]? =some (x,y))(hb:g.ρ[b]? =some (x',y')):Wp m g st (agl .Add (.ref x) (.ref x')) (tM a b st) m.VR:=by
 refine Wp.bV λxs hxs=>Wp.bV λys hys=>Wp.aL λhg=>uX λs Q E news R F N k=>?_
 have hg:=of_decide_eq_true hg
 obtain⟨vs,h1,h2⟩:=R.inv.list ha hxs
 obtain⟨ws,h3,h4⟩:=R.inv.list hb hys
 refine add_arrays F N h1 h3 (λh' F' N'=>k h' s.toks _ F' N' ⟨_,0,rfl,h2.append h4⟩) ?_
 rw[h2.length,h4.length]at hg
 exact aah hg (by decide)
theorem Bc{v:Value}{n:Nat}:(⟨.type "list",none,Data.seq (aio (λx1 x2=>x1++x2) #[] (aaT n #[v])) 0,#[]⟩:Obj)=⟨.type "list",none,.seq (aaT n v).toArray 0,#[]⟩:=by
 rw[A9,Array.empty_append]
theorem Bd{a:Nat}{n:Int}{u:Tok}{x y:Addr}(ha:g.ρ[a]? =some (x,y)):Wp m g st (agl .Mult (.ref x) (.int n u)) (mulL a n st) m.VR:=by
 refine Wp.bV λxs hxs=>Wp.aL λhg=>?_
 obtain⟨g0,g1⟩:=aab.mp hg
 have g0:=of_decide_eq_true g0
 have g1:=of_decide_eq_true g1
 cases xs with
 |nil=>exact Wp.no
 |cons x0 xs=>
  cases xs with
  |cons _ _=>exact Wp.no
  |nil=>
   refine uX λs Q E news R F N k=>?_
   obtain⟨vs,h1,v0,l,rfl,hv,rfl⟩:=R.inv.list ha hxs
   rw[nD]at g1
   exact A' h1 (x:=n) (by lia) (by simp;lia) (by lia) (Fm:=F) (N:=N) λh' F' N'=>k h' s.toks _ F' N' ⟨aaT n.toNat v0,0,Bc,aA.replicate hv _⟩
theorem Be{a b:By}{t u:Tok}:Wp m g st (agl .Add (.bytes a.toArray t) (.bytes b.toArray u)) ((guard (decide (a.length+b.length<=lim))>>=λ_=>pure (.bytes (a++b)):M V) st) m.VR:=
 Wp.aL λhg=>Wp.val λs Q E R k=>KBy.add_bytes (aah (of_decide_eq_true hg) (by decide)) λt' tk=>k _ _ (List.append_toArray (l₁:=a) (l₂:=b)▸.bytes _ _)
theorem Bg{op:abZ}{a:Nat}{b:V}{rb:Value}{x y:Addr}(ha:g.ρ[a]? =some (x,y))(vb:m.VR g b rb):Wp m g st (agl op (.ref x) rb) (tN op a b st) m.VR:=by
 cases b with
 |ref b=>
  refine Wp.aL λhg=>?_
  obtain⟨x',y',rfl,hb⟩:=vb
  exact uY hg▸Bb ha hb
 |int n=>
  refine Wp.aL λhg=>?_
  obtain⟨u,rfl⟩:=vb
  exact Ba hg▸Bd ha
 |_=>exact Wp.no
theorem Bh{op:abZ}{a b:V}{ra rb:Value}(va:m.VR g a ra)(vb:m.VR g b rb):Wp m g st (agl op ra rb) (binop op a b st) m.VR:=by
 cases a with
 |int a=>
  refine Wp.aX λj hj=>?_
  subst hj
  obtain⟨t,rfl⟩:=va
  obtain⟨u,rfl⟩:=vb
  exact A8
 |bytes a=>
  refine Wp.aL λhg=>Wp.eZ λb hb=>?_
  subst hb
  obtain⟨t,rfl⟩:=va
  obtain⟨u,rfl⟩:=vb
  exact uY hg▸Be
 |ref a=>
  obtain⟨x,y,rfl,ha⟩:=va
  exact Bg ha vb
 |_=>exact Wp.no
end
section
open _root_.PySem.SeqAt
section
variable {c:Cx} {g:Gs} {H:Hp} {h:Heap}
theorem uZ{p:Addr×Addr}{o:O}{ps:List (Addr×Addr)}:∀ {H:Hp} {i:Nat},ps[i]? =some p->H[i]? =some o->p.1∈(dm c g ps H).map (·.1):=λ{H i} hp ho=>by
 obtain⟨l1,l2,e⟩:=uE (c:=c) (g:=g) hp ho
 rw[<-set_same ho,e o]
 exact aau.mpr ⟨_,aao _ (aac _ (ny p o)),rfl⟩
theorem Bj{ps:List (Addr×Addr)}:∀ {H:Hp},((dm c g ps H).map (·.1)).Nodup->∀ {i j:Nat} {p q:Addr×Addr} {o o':O},ps[i]? =some p->H[i]? =some o->ps[j]? =some q->H[j]? =some o'->p.1=q.1->i=j:=by
 induction ps with
 |nil=>exactλ_ _ _ _ _ _ _ hp=>ai hp
 |cons p0 ps ih=>
  intro H nd i j p q o o' hp ho hq ho' e
  cases H with
  |nil=>exact ai ho
  |cons o0 os=>
   have nd:((dO c g p0 o0++dm c g ps os).map (·.1)).Nodup:=nd
   rw[aaq]at nd
   have nd:=aaW.mp nd
   have hd:∀ {a:Addr},a∈(dm c g ps os).map (·.1)->p0.1≠a:=λha=>nd.2.2 _ (aau.mpr ⟨_,ny p0 o0,rfl⟩) _ ha
   cases i with
   |zero=>
    cases j with
    |zero=>rfl
    |succ j=>exact absurd ((congrArg aei (aae.inj hp)).trans e) (hd (uZ (ps:=ps) hq ho'))
   |succ i=>
    cases j with
    |zero=>exact absurd ((congrArg aei (aae.inj hq)).trans e.symm) (hd (uZ (ps:=ps) hp ho))
    |succ j=>exact congrArg (·+1) (ih nd.2.1 hp ho hq ho' e)
theorem Inv.inj(I:Inv c g H h){i j:Nat}{p q:Addr×Addr}{o o':O}(hp:g.ρ[i]? =some p)(ho:H[i]? =some o)(hq:g.ρ[j]? =some q)(ho':H[j]? =some o')(ne:i≠j):p.1≠q.1:=by
 have nd:=I.dp
 unfold cells at nd
 rw[aaH,aaq]at nd
 exactλe=>ne (Bj (aaW.mp (aaI.mp nd).2).2.1 hp ho hq ho' e)
theorem Bk(A:aaY)(s:aaC)(a b:Array UInt8)(t u:Tok):EqAt A s (.bytes a t) (.bytes b u) (a.toList==b.toList):=λprog w E Q hq=>by
 unfold eqBool
 refine abT ?_
 refine wpAny_ite_split (λe=>?_) λ_=>?_
 ·have e:=eq_of_beq e
  injection e with e1 e2
  subst e1
  rw[beq_self_eq_true]at hq
  exact wpAny_bind (acK (aai hq))
 ·exact wpAny_bind (eq_bytes (agz hq))
theorem getElem_eq{α:Type}{a:Array α}{l:List α}(e:a=l.toArray){j:Nat}(h1:j<a.size){x:α}(hx:l[j]? =some x):a[j]=x:=by
 subst e
 obtain⟨h,e⟩:=aan.mp hx
 simpa using e
theorem Bl(n:Nat)(e:Nat->Bool):(aaw (n+1)).all e=(e 0&&(aaw n).all λj=>e (j+1)):=by
 rw[aeH,agJ,ajy];rfl
theorem u0{f:V->V->Option Bool}{A:aaY}{s:aaC}(IH:∀ {x y:V} {rx ry:Value} {r:Bool},f x y=some r->VR c g x rx->VR c g y ry->EqAt A s rx ry r){xs:List V}{vs:Vs}(q:aA c g xs vs):
  ∀ {ys:List V} {ws:Vs} {r:Bool},aA c g ys ws->gZ f xs ys=some r->xs.length=ys.length->∃ F:Nat->Bool,(∀ j rx ry,vs[j]? =some rx->ws[j]? =some ry->EqAt A s rx ry (F j))∧(aaw vs.length).all F=r:=by
 induction q using aQ.ind with
 |nil=>exactλ_ e _=>⟨λ_=>true,λj rx ry z=>ai z,aae.inj e⟩
 | @cons a b as bs h _ ih=>?_
 intro ys ws r q' e hl
 cases ys with
 |nil=>contradiction
 |cons y ys=>
  obtain⟨w,ws',rfl,h',t'⟩:=q'
  obtain⟨r1,e1,e⟩:=aaj.mp e
  obtain⟨r2,e2,e⟩:=aaj.mp e
  obtain⟨F,F1,F2⟩:=ih t' e2 (acu.inj hl)
  refine⟨λj=>Nat.rec r1 (λk _=>F k) j,λj=>?_,?_⟩
  ·cases j with
   |zero=>exactλrx ry z1 z2=>aae.inj z1▸aae.inj z2▸IH e1 h h'
   |succ j=>exact F1 j
  ·rw[abi,Bl,<-aae.inj e,<-F2];rfl
theorem Inv.tuple(I:Inv c g H h){a:Nat}{x y:Addr}{xs:List V}(hp:g.ρ[a]? =some (x,y))(ho:H[a]? =some (.tuple xs)):∃ vs,h.IsTuple x vs.toArray∧aA c g xs vs:=by
 obtain⟨ob,h1,vs,n,rfl,h4⟩:=I.obj hp ho
 exact⟨vs,⟨_,h1,rfl,n,rfl⟩,h4⟩
structure hZ(A:aaY)(s:aaC)(ra rb:Value)(r:Bool):Prop where
 eq:EqAt A s ra rb r
 rc:RcAt A s ra rb r
 ne:ahI A s ra rb (!r)
section
variable {s:aaC} {A:aaY} {b:V} {rb:Value} {r:Bool}
theorem u3(hT:c.T.Nodup){k k':Nat}{x x':Str}(hx:c.T[k]? =some x)(hx':c.T[k']? =some x'):(k==k')=(x==x'):=by
 by_cases q:k=k'
 ·subst q
  rw[aae.inj (hx.symm.trans hx'),beq_self_eq_true,beq_self_eq_true]
 ·have:x≠x':=λz=>q ((aip (aan.mp hx).1 hT).mp (hx.trans (z▸hx'.symm)))
  rw[beq_eq_false_iff_ne.mpr q,beq_eq_false_iff_ne.mpr this]
theorem qo{β:Type}[BEq β]{F:V->Option β}{C:β->V}(hF:∀ {v x},F v=some x->v=C x){a:β}(e:(F b).map (a==·)=some r):∃ x,b=C x∧r=(a==x):=by
 obtain⟨x,h1,h2⟩:=aaR.mp e
 exact⟨x,hF h1,h2.symm⟩
theorem Bm(e:(toN b).map (λ_=>true)=some r)(vb:VR c g b rb):hZ A s .none rb r:=by
 obtain⟨x,h1,h2⟩:=aaR.mp e
 subst h2
 rw[uM h1]at vb
 rw[show rb=.none from vb]
 exact⟨EqAt.same _,RcAt.none_none,ahI.none_none⟩
theorem Bn{a:Bool}(e:(lu b).map (a==·)=some r)(vb:VR c g b rb):hZ A s (.bool a) rb r:=by
 obtain⟨b,rfl,rfl⟩:=qo qe e
 exact(show rb=.bool b from vb)▸⟨EqAt.bool_bool a b,RcAt.bool_bool a b,ahI.bool_bool a b⟩
theorem Bo{a:Int}{t:Tok}(e:(jk b).map (a==·)=some r)(vb:VR c g b rb):hZ A s (.int a t) rb r:=by
 obtain⟨b,rfl,rfl⟩:=qo g9 e
 obtain⟨u,rfl⟩:=vb
 exact⟨EqAt.int_int a t b u,RcAt.int_int a t b u,ahI.int_int a t b u⟩
theorem Bp{a:By}{t:Tok}(e:(lx b).map (a==·)=some r)(vb:VR c g b rb):hZ A s (.bytes a.toArray t) rb r:=by
 obtain⟨b,rfl,rfl⟩:=qo nA e
 obtain⟨u,rfl⟩:=vb
 exact⟨Bk A s a.toArray b.toArray t u,λprog w E Q hq=>eq_bytes hq,λprog w E Q hq=>ne_bytes hq⟩
theorem Bq(hT:c.T.Nodup){k:Nat}{x:Str}{t:Tok}(hx:c.T[k]? =some x∨k=eh)(e:(toS b).bind (λb=>if k=eh∨b=eh then none else some (k==b))=some r)(vb:VR c g b rb):hZ A s (.str x t) rb r:=by
 obtain⟨k',h1,e⟩:=aaj.mp e
 rw[AV h1]at vb
 obtain⟨x',u,rfl,hx'⟩:=vb
 by_cases h:k=eh∨k'=eh
 ·rw[if_pos h]at e;exact ai e
 ·rw[if_neg h]at e
  have h:=not_or.mp h
  obtain rfl:=aae.inj e
  rw[u3 hT (hx.resolve_right h.1) (hx'.resolve_right h.2)]
  exact⟨EqAt.str_str x t x' u,RcAt.str_str x t x' u,ahI.str_str x t x' u⟩
theorem Br{xs ys:List V}{x y:Addr}{vs ws:Vs}{f:V->V->Option Bool}(IH:∀ {x y:V} {rx ry:Value} {r:Bool},f x y=some r->VR c g x rx->VR c g y ry->EqAt A.in1 s rx ry r)(hu:A.units<cLine)(ne:x≠y)
  (h1:s.heap.IsList x vs.toArray) (h2:aA c g xs vs) (h3:s.heap.IsList y ws.toArray) (h4:aA c g ys ws) (e:(if xs.length=ys.length then gZ f xs ys else some false)=some r):hZ A s (.ref x) (.ref y) r:=by
 by_cases hl:xs.length=ys.length
 ·rw[if_pos hl]at e
  obtain⟨F,F1,F2⟩:=u0 IH h2 h4 e hl
  have hsz:vs.toArray.size=ws.toArray.size:=by rw[aaE,aaE,<-h2.length,<-h4.length,hl]
  have he:∀ j (q1:j<vs.toArray.size) (q2:j<ws.toArray.size),EqAt A.in1 s vs.toArray[j] ws.toArray[j] (F j):=λj q1 q2=>F1 j _ _ (by rw[adP];exact aaz _) (by rw[adP];exact aaz _)
  have r1:=RcAt.lists h1 h3 hsz hu he
  have r2:=ahI.lists h1 h3 hsz hu he
  rw[aaE,F2]at r1 r2
  exact⟨afQ ne r1,r1,r2⟩
 ·rw[if_neg hl]at e
  cases e
  have hsz:(vs.toArray.size != ws.toArray.size)=true:=by rw[aaE,aaE,<-h2.length,<-h4.length];exact bne_iff_ne.mpr hl
  have r1:=RcAt.lists_lengths h1 h3 hsz hu
  exact⟨afQ ne r1,r1,ahI.lists_lengths h1 h3 hsz hu⟩
theorem Bt{xs ys:List V}{x y:Addr}{vs ws:Vs}{f:V->V->Option Bool}(IH:∀ {x y:V} {rx ry:Value} {r:Bool},f x y=some r->VR c g x rx->VR c g y ry->EqAt A.in1 s rx ry r)(hu:A.units<cLine)(ne:x≠y)
  (h1:s.heap.IsTuple x vs.toArray) (h2:aA c g xs vs) (h3:s.heap.IsTuple y ws.toArray) (h4:aA c g ys ws) (e:(if xs.length=ys.length then gZ f xs ys else none)=some r):hZ A s (.ref x) (.ref y) r:=by
 by_cases hl:xs.length=ys.length
 ·rw[if_pos hl]at e
  obtain⟨F,F1,F2⟩:=u0 IH h2 h4 e hl
  have hsz:vs.toArray.size=ws.toArray.size:=by rw[aaE,aaE,<-h2.length,<-h4.length,hl]
  have he:∀ j (q1:j<vs.toArray.size) (q2:j<ws.toArray.size),EqAt A.in1 s vs.toArray[j] ws.toArray[j] (F j):=λj q1 q2=>F1 j _ _ (by rw[adP];exact aaz _) (by rw[adP];exact aaz _)
  have r1:=RcAt.tuples h1 h3 hu he
  have r2:=ahI.tuples h1 h3 hu he
  rw[<-hsz,Nat.min_self,aaE,F2,beq_self_eq_true,Bool.and_true]at r1 r2
  exact⟨afQ ne r1,r1,r2⟩
 ·rw[if_neg hl]at e
  cases e
theorem nE{β:Type}{F:O->Option β}{C:β->O}(hF:∀ {o x},F o=some x->o=C x){a:Option O}{x:β}(e:a.bind F=some x):a=some (C x):=by
 obtain⟨o,h1,h2⟩:=aaj.mp e
 exact h1.trans (congrArg some (hF h2))
theorem Bu{f:V->V->Option Bool}(I:Inv c g H s.heap)(IH:∀ {x y:V} {rx ry:Value} {r:Bool},f x y=some r->VR c g x rx->VR c g y ry->EqAt A.in1 s rx ry r)(hu:A.units<cLine){a b:Nat}{x y x' y':Addr}(ha:g.ρ[a]? =some (x,y))(hb:g.ρ[b]? =some (x',y'))(e:pF H f a b=some r):hZ A s (.ref x) (.ref x') r:=by
 unfold pF at e
 by_cases ne:a=b
 ·rw[if_pos ne]at e;contradiction
 rw[if_neg ne]at e
 unfold pE at e
 cases e1:H[a]?.bind jj with
 |some xs=>
  rw[e1]at e
  obtain⟨ys,e2,e⟩:=aaj.mp e
  have e1:=nE ku e1
  have e2:=nE ku e2
  obtain⟨vs,h1,h2⟩:=I.list ha e1
  obtain⟨ws,h3,h4⟩:=I.list hb e2
  exact Br IH hu (I.inj ha e1 hb e2 ne) h1 h2 h3 h4 e
 |none=>
  rw[e1]at e
  obtain⟨xs,e1,e⟩:=aaj.mp e
  obtain⟨ys,e2,e⟩:=aaj.mp e
  have e1:=nE qf e1
  have e2:=nE qf e2
  obtain⟨vs,h1,h2⟩:=I.tuple ha e1
  obtain⟨ws,h3,h4⟩:=I.tuple hb e2
  exact Bt IH hu (I.inj ha e1 hb e2 ne) h1 h2 h3 h4 e
end
theorem u4(hT:c.T.Nodup){s:aaC}(I:Inv c g H s.heap)(n:Nat):∀ {a b:V} {ra rb:Value} {r:Bool} {A:aaY},gj H n a b=some r->VR c g a ra->VR c g b rb->A.units+n<cLine->hZ A s ra rb r:=by
 induction n with
 |zero=>exactλe=>ai e
 |succ n ih=>
  intro a b ra rb r A e va vb hu
  cases a with
  |none=>exact(show ra=.none from va)▸Bm e vb
  |bool a=>exact(show ra=.bool a from va)▸Bn e vb
  |int a=>obtain⟨t,rfl⟩:=va;exact Bo e vb
  |str k=>obtain⟨x,t,rfl,hx⟩:=va;exact Bq hT hx e vb
  |bytes a=>obtain⟨t,rfl⟩:=va;exact Bp e vb
  |ref a=>
   obtain⟨x,y,rfl,ha⟩:=va
   obtain⟨b',h1,e⟩:=aaj.mp e
   rw[hH h1]at vb
   obtain⟨x',y',rfl,hb⟩:=vb
   exact Bu I (λe v w=>(ih e v w (agK A.units n▸hu)).eq) (aba (aeI _ _) hu) ha hb e
  |_=>exact ai e
section
variable {m:Am} {g:Gs} {st:St}
theorem Inv.nF(I:Inv c g H h){i:Nat}{p:Addr×Addr}{o:O}(hp:g.ρ[i]? =some p)(ho:H[i]? =some o){b:Addr}{ob:Obj}(hb:c.b₀.get? b=some ob):p.1≠b:=λe=>by
 have:=I.low _ (pY hp ho (ny p o))
 rw[e,hb]at this;cases this
theorem qp{c:Cx}{g:Gs}{xs:List V}{vs:Vs}(h:aA c g xs vs):∀ {ns:List Int},intsOf xs=some ns->agX vs ns:=by
 induction h using aQ.ind with
 |nil=>exactλe=>aae.inj e▸.nil
 | @cons x v xs vs h1 _ ih=>?_
 intro ns e
 unfold intsOf at e
 rw[afl]at e
 obtain⟨a,e1,e⟩:=aaj.mp e
 obtain⟨r,e2,e⟩:=aaj.mp e
 rw[g9 e1]at h1
 obtain⟨t,rfl⟩:=h1
 exact aae.inj e▸.cons _ _ (ih e2)
def kB{α β:Type}(r:α->β->Prop):Prop:=∀ a a' b b',r a b->r a' b'->(a=a'↔b=b')
theorem qq:kB (λa b:Int=>a=b):=λa a' b b' e e'=>by rw[show a=b from e,show a'=b' from e']
abbrev Pairs{α β:Type}(c:Cx)(g:Gs)(r:α->β->Prop):List (α×V)->List (β×Value)->Prop:=aQ λa b=>r a.1 b.1∧VR c g a.2 b.2
theorem Bv{c:Cx}{g:Gs}{α β:Type}[DecidableEq α][DecidableEq β]{r:α->β->Prop}(inj:kB r){es:List (α×V)}{kvs:List (β×Value)}{k:α}{k':β}(q:Pairs c g r es kvs)(hk:r k k'):cN c g (es.lookup k) (aib kvs k'):=by
 refine aQ.fold q (cN.none (c:=c) (g:=g)) λa b as bs h _ ih=>?_
 have w:=inj _ _ _ _ hk h.1
 unfold aib
 rw[aay,acN]
 by_cases e:k=a.1
 ·rw[beq_iff_eq.mpr e,decide_eq_true (w.mp e).symm]
  exact .some h.2
 ·rw[beq_eq_false_iff_ne.mpr e,decide_eq_false λz=>e (w.mpr z.symm)]
  exact ih
theorem lO{c:Cx}{g:Gs}{es:List (Int×V)}{kvs:List (Int×Value)}(q:Pairs c g (λa b=>a=b) es kvs)(k:Int):cN c g (dW es k) (aib kvs k):=Bv qq q rfl
theorem cN.isSome{c:Cx}{g:Gs}{a:Option V}{b:Option Value}(q:cN c g a b):a.isSome=b.isSome:=by
 cases a with
 |none=>rw[show b=ajm from q];rfl
 |some a=>obtain⟨r,rfl,_⟩:=q;rfl
theorem Inv.dict{c:Cx}{g:Gs}{H:Hp}{h:Heap}(I:Inv c g H h){a:Nat}{x y:Addr}{es:List (Int×V)}(hp:g.ρ[a]? =some (x,y))(ho:H[a]? =some (.dict es)):
  ∃ kvs,h.DictOf (aia c.prog c.w) x kvs∧aQ (λa b=>a.1=b.1∧VR c g a.2 b.2) es kvs:=by
 obtain⟨ob,h1,kvs,⟨es',ep,h2⟩,h3⟩:=I.obj hp ho
 exact⟨kvs,⟨ob,es',ep,h1,h2⟩,h3⟩
theorem intKind_is(prog:acI)(w:World)(k:Int)(t:Tok):(aia prog w).is k (.int k t)=true:=by
 show ajz k (.int k t)=true
 simp[ajz]
theorem Bw(ks:List Int)(i:Int):ks.any (·==i)=ks.contains i:=by
 induction ks with
 |nil=>rfl
 |cons a r ih=>
  rw[agL,adv,ih]
  congr 1
  exact Bool.beq_comm ..
def eT(m:Am)(g:Gs)(st:St)(op:CmpOp)(ra rb:Value)(r:Bool):Prop:=
 ∀ (s:aaC) (Q:Value->Sh) (E:Value->Sh),Rel m g st s.heap->(∀ tk,Q (.bool r) {s with toks:=tk})->wpAny (model m.c.prog m.c.w) m.A (afq op ra rb) Q E s
theorem Bx(hb:∃ o,m.c.b₀.get? acw=some o){i:Int}{t:Tok}{d:Nat}{x y:Addr}{o:O}{r:Bool}{st':St}(hd:g.ρ[d]? =some (x,y))(ho:st.H[d]? =some o)(e:pG i o st=.ok r st'):
  eT m g st .In (.int i t) (.ref x) r∧eT m g st .NotIn (.int i t) (.ref x) (!r):=by
 cases o with
 |dict es=>
  rw[hJ e]
  obtain⟨om,hb⟩:=hb
  have ne:∀ {s:aaC},Rel m g st s.heap->x≠acw:=λR=>R.inv.nF hd ho hb
  refine⟨λs Q E R k=>?_,λs Q E R k=>?_⟩
  all_goals
   obtain⟨kvs,h1,h2⟩:=R.inv.dict hd ho
   rw[(lO h2 i).isSome]at k
  ·exact wpAny_in_of (intKind_is _ _ i t) (beq_eq_false_iff_ne.mpr (ne R)) h1.mapOf (k _)
  ·exact wpAny_notIn_of (intKind_is _ _ i t) (beq_eq_false_iff_ne.mpr (ne R)) h1.mapOf (k _)
 |list xs=>
  obtain⟨ks,hk,e⟩:=ky e
  rw[hJ e,<-Bw]
  refine⟨λs Q E R k=>?_,λs Q E R k=>?_⟩
  all_goals obtain⟨vs,h1,h2⟩:=R.inv.list hd ho
  ·exact in_list_ints h1 (qp h2 hk) (k _)
  ·exact notin_list_ints h1 (qp h2 hk) (k _)
 |_=>exact kz e
theorem Bz(i:Int)(o:O):Still (pG i o):=by
 cases o with
 |dict es=>exact .pure _
 |list xs=>exact(Still.aG _).bind λ_=>.pure _
 |_=>exact .no
theorem qr(a b:V):Still (nc a b):=(Still.aG _).bind λ_=>(Still.aG _).bind λ_=>(Still.obj _).bind λ_=>Bz _ _
theorem u5(hb:∃ o,m.c.b₀.get? acw=some o){a b:V}{ra rb:Value}(va:m.VR g a ra)(vb:m.VR g b rb){r:Bool}{st':St}(e:nc a b st=.ok r st'):
  eT m g st .In ra rb r∧eT m g st .NotIn ra rb (!r):=by
 obtain⟨i,hi,e⟩:=ky e
 obtain⟨d,hd,e⟩:=ky e
 obtain⟨o,ho,e⟩:=(Still.obj _).inv e
 rw[g9 hi]at va
 rw[hH hd]at vb
 obtain⟨t,rfl⟩:=va
 obtain⟨x,y,rfl,hp⟩:=vb
 exact Bx hb hp (uP ho) e
end
end
end
noncomputable def nG (K:Frag) (C:Addr) (x:Str):Bool:=
 ajs K C x&&hasDictIn K C&&(match aes K (.ref C) x with |some a=>noGet K a |none=>false)&&(agA K C x==some none)&&plainOver K C&&
 (aes K (.ref C) "__setattr__"==some (some (.builtin "object.__setattr__")))
noncomputable def iO (K:Frag) (C:Addr):Bool:=(aes K (.ref C) "__eq__"==some (some (.builtin "object.__eq__")))&&plainOver K C
noncomputable def qs (K:Frag) (C:Addr) (x:Str) (f:Addr):Bool:=ajs K C x&&(aes K (.ref C) x==some (some (.ref f)))&&isFn K (.ref f)
structure cO(c:Cx)(P:a9)(K:Frag)(mg mb:Str->Option Value):Prop where
 KX:K.In c.b₀
 lim:c.b₀.NoLimit
 T:c.T=P.T
 nd:c.T.Nodup
 glob:kA c P mg mb
 fld:∀ C k,P.cD.contains (C,k)=true->∃ x,c.T[k]? =some x∧nG K C x=true
 eqs:∀ C,P.eqs.contains C=true->iO K C=true
 e7:∀ C k f,P.e7.lookup (C,k)=some f->∃ x,c.T[k]? =some x∧qs K C x f=true
section
variable {c:Cx} {g:Gs} {H:Hp} {h:Heap}
theorem u6{P:a9}{x:Str}{k:Nat}(e:fQ P x=some k):P.T[k]? =some x:=by
 unfold fQ at e
 obtain⟨h1,h2,h3⟩:=afx.mp e
 rw[aaz h1,eq_of_beq h2]
theorem FR.isStr{c:Cx}(nd:c.T.Nodup){p:Nat×V}{d:adZ}{k:Nat}{x:Str}(q:FR c g p d)(e:c.T[k]? =some x):d.key.isStr x=(p.1==k):=by
 obtain⟨x',t,hs,r,rfl,hx,_⟩:=q
 exact(u3 nd hx e).symm
theorem FR.val{c:Cx}{p:Nat×V}{d:adZ}(q:FR c g p d):VR c g p.2 d.val:=by
 obtain⟨x',t,hs,r,rfl,_,hv⟩:=q
 exact hv
theorem FR.refKey{c:Cx}{p:Nat×V}{d:adZ}(q:FR c g p d):d.refKey=false:=by
 obtain⟨x',t,hs,r,rfl,_⟩:=q
 rfl
theorem BA{c:Cx}{fs:List (Nat×V)}{ds:List adZ}(q:aQ (FR c g) fs ds):ds.any (·.refKey)=false:=aQ.fold q rfl λ_ _ _ _ a _ ih=>by rw[agL,a.refKey,ih];rfl
theorem qt{c:Cx}{fs:List (Nat×V)}{ds:List adZ}{x:Str}(q:aQ (FR c g) fs ds):getL x ds=some ((ds.find? (·.key.isStr x)).map (·.val)):=by
 unfold getL
 cases ds.find? (λd=>d.key.isStr x)with
 |some d=>rfl
 |none=>exact(congrArg (λb=>if b=true then none else some none) (BA q)).trans rfl
theorem u7{c:Cx}(nd:c.T.Nodup){fs:List (Nat×V)}{ds:List adZ}{k:Nat}{x:Str}(e:c.T[k]? =some x)(q:aQ (FR c g) fs ds):cN c g (fs.lookup k) ((ds.find? (·.key.isStr x)).map (·.val)):=by
 refine aQ.fold q (cN.none (c:=c) (g:=g)) λp d fs' ds' a _ ih=>?_
 rw[aay,acN,a.isStr nd e]
 by_cases z:p.1=k
 ·rw[z,beq_self_eq_true]
  exact .some a.val
 ·rw[beq_eq_false_iff_ne.mpr z,beq_eq_false_iff_ne.mpr (acm z)]
  exact ih
theorem BB{c:Cx}(nd:c.T.Nodup){ds:List adZ}{k:Nat}{x:Str}{hsh:Int}{t:Tok}{v:V}{r:Value}(e:c.T[k]? =some x)(hv:VR c g v r){fs:List (Nat×V)}(q:aQ (FR c g) fs ds):
  aQ (FR c g) (e9 fs k v) (putL x hsh (.str x t) r ds):=by
 refine aQ.fold q (.cons (.mk e hv) .nil) λp d fs' ds' a q' ih=>?_
 unfold e9 putL
 rw[a.isStr nd e]
 cases z:p.1==k with
 |true=>
  refine .cons ?_ q'
  obtain⟨x',t',hs,r',rfl,hx',_⟩:=a
  exact .mk hx' hv
 |false=>exact .cons a ih
theorem BC(fs:List (Nat×V))(k:Nat)(v:V):(e9 fs k v).length<=fs.length+1:=by
 induction fs with
 |nil=>exact aaZ _
 |cons p r ih=>
  unfold e9
  cases p.1==k with
  |true=>exact adE _
  |false=>exact abE ih
theorem Inv.inst(I:Inv c g H h){a:Nat}{x y C:Addr}{fs:List (Nat×V)}(hp:g.ρ[a]? =some (x,y))(ho:H[a]? =some (.inst C fs)):
  ∃ ds n,InstAt h x (aeY C y) C (some (dictOf ds n))∧aQ (FR c g) fs ds:=by
 obtain⟨ob,h1,h2⟩:=I.obj hp ho
 obtain⟨ob',h3,ds,n,h4,h5⟩:=I.aux hp ho
 rw[show ob=aeY C y from h2]at h1
 rw[h4]at h3
 exact⟨ds,n,⟨h1,rfl,rfl,h3⟩,h5⟩
end
section
variable {c:Cx} {g:Gs} {H:Hp} {h:Heap}
theorem Inv.BD(I:Inv c g H h){l1 l2:List Cell}{a:Addr}{P:Obj->Prop}{ob:Obj}(e:cells c g H=(c.N,b9 g.m)::(l1++(a,P)::l2))(ha:h.get? a=some ob):
  bT λpre post=>cB (News c.b₀ c.N h (pre++(a,ob)::post)) (∀ p∈pre,p.1≠a) (∀ p∈post,p.1≠a)
   (∀ h' ob' P' g₁ H₁,Fr c.b₀ c.N h' g.m->News c.b₀ c.N h' (pre++(a,ob')::post)->P' ob'->cells c g₁ H₁=(c.N,b9 g.m)::(l1++(a,P')::l2)->g₁.ρ.length=H₁.length->Inv c g₁ H₁ h'):=by
 have S:=e▸I.sat
 have W:=e▸I.low
 have N:=e▸I.dp
 have n0:=aaI.mp N
 have ap:=uG (l1:=l1) (l2:=l2) (x:=(a,P)) n0.2
 have D:∀ x∈l1++(a,P)::l2,x.1≠c.N∧c.b₀.get? x.1=none:=λx hx=>⟨λq=>n0.1 (aau.mpr ⟨x,hx,q⟩),W x (.tail _ hx)⟩
 have D1:=abd.mp D
 have S1:=abd.mp λx hx=>S x (.tail _ hx)
 obtain⟨pre,k1,k2⟩:=qd (D:=λb=>b≠a∧b≠c.N∧c.b₀.get? b=none) S1.1 λx hx=>⟨ap.1 x hx,D1.1 x hx⟩
 obtain⟨post,k3,k4⟩:=qd (D:=λb=>b≠a∧b≠c.N∧c.b₀.get? b=none) (λx hx=>S1.2 x (.tail _ hx)) λx hx=>⟨ap.2 x hx,D1.2 x (.tail _ hx)⟩
 refine⟨pre,post,abd.mpr ⟨λp hp=>⟨(k1 p hp).1,(k1 p hp).2.2⟩,aas.mpr ⟨⟨ha,D1.2 (a,P) (.head _)⟩,λp hp=>⟨(k3 p hp).1,(k3 p hp).2.2⟩⟩⟩,λp hp=>(k1 p hp).2.1,λp hp=>(k3 p hp).2.1,λh' ob' P' g₁ H₁ F N' hP ce hl=>?_⟩
 have M:=abd.mp N'
 have M2:=aas.mp M.2
 refine⟨F.keep,F.above,hl,ce▸aas.mpr ⟨Fr.sat F,abd.mpr ⟨k2 h' λp hp=>(M.1 p hp).1,aas.mpr ⟨⟨ob',M2.1.1,hP⟩,k4 h' λp hp=>(M2.2 p hp).1⟩⟩⟩,?_,ce▸aas.mpr ⟨W (c.N,b9 g.m) (.head _),qa (y:=(a,P')) (λx hx=>W x (.tail _ hx)) (D1.2 (a,P) (.head _)).2⟩⟩
 rw[ce,aaH,pZ (P:=P)];exact N
theorem Inv.BE{i:Nat}{p:Addr×Addr}{C:Addr}{fs:List (Nat×V)}{ob:Obj}(I:Inv c g H h)(hp:g.ρ[i]? =some p)(ho:H[i]? =some (.inst C fs))(hob:h.get? p.2=some ob):
  bT λpre post=>cB (News c.b₀ c.N h (pre++(p.2,ob)::post)) (∀ q∈pre,q.1≠p.2) (∀ q∈post,q.1≠p.2)
   (∀ h' ob' fs',Fr c.b₀ c.N h' g.m->News c.b₀ c.N h' (pre++(p.2,ob')::post)->gL c g fs' ob'->Inv c g (H.set i (.inst C fs')) h'):=by
 obtain⟨l1,l2,e⟩:=pW (c:=c) (g:=g) hp ho
 have e (fs'):cells c g (H.set i (.inst C fs'))=(c.N,b9 g.m)::((l1++[(p.1,b5 c g p (.inst C fs))])++(p.2,gL c g fs')::l2):=(e (.inst C fs')).trans (congrArg _ (aaf l1 [(p.1,b5 c g p (.inst C fs))] ((p.2,gL c g fs')::l2)).symm)
 obtain⟨pre,post,N,h1,h2,k⟩:=I.BD (pX ho (e fs)) hob
 exact⟨pre,post,N,h1,h2,λh' ob' fs' F' N' q=>k h' ob' (gL c g fs') g _ F' N' q (e fs') (I.len.trans adu.symm)⟩
end
section
variable {m:Am} {g:Gs} {st:St} {P:a9} {K:Frag} {mg mb:Str->Option Value}
structure u9(K:Frag)(C:Addr)(x:Str):Prop where
 get:ajs K C x=true
 dict:hasDictIn K C=true
 at':∃ a,aes K (.ref C) x=some a∧noGet K a=true
 BF:agA K C x=some none
 over:plainOver K C=true
 set:aes K (.ref C) "__setattr__"=some (some (.builtin "object.__setattr__"))
theorem BG{K:Frag}{C:Addr}{x:Str}(h:nG K C x=true):u9 K C x:=by
 simp only[nG,abD,beq_iff_eq]at h
 obtain⟨⟨⟨⟨⟨f1,f2⟩,f3⟩,f4⟩,f5⟩,f6⟩:=h
 refine⟨f1,f2,?_,f4,f5,f6⟩
 cases ha:aes K (.ref C) x with
 |none=>rw[ha]at f3;contradiction
 |some a=>rw[ha]at f3;exact⟨a,rfl,f3⟩
theorem cO.named{c:Cx}(PK:cO c P K mg mb){x:Str}{k:Nat}(hk:fQ P x=some k):c.T[k]? =some x:=PK.T▸u6 hk
theorem cO.vd{c:Cx}(PK:cO c P K mg mb){C:Addr}{x:Str}{k:Nat}(hk:fQ P x=some k)(hg:P.cD.contains (C,k)=true):u9 K C x:=by
 obtain⟨x',hx',hf⟩:=PK.fld _ _ hg
 exact BG (aae.inj (hx'.symm.trans (PK.named hk))▸hf)
theorem VR.handed{c:Cx}{v:V}{r:Value}(h:VR c g v r)(hp:kh v=true):handedIn r=true:=by
 cases v<;>first |contradiction | (cases h;rfl) | (obtain⟨_,rfl⟩:=h;rfl) | (obtain⟨_,_,rfl,_⟩:=h;rfl)
theorem vg(PK:cO m.c P K mg mb){v:V}{rv:Value}{attr:Str}{expr:Bool}(vv:m.VR g v rv):Wp m g st (getAttr rv attr expr) (lC P v attr st) m.VR:=by
 refine Wp.bx λa ha=>?_
 subst ha
 refine Wp.gH λC fs ho=>Wp.aG λk hk=>Wp.aL λhg=>Wp.aG λr hr=>Wp.aL λhpl=>Wp.val λs Q E R kk=>?_
 obtain⟨x,y,rfl,hp⟩:=vv
 obtain⟨ds,n,I,q⟩:=R.inv.inst hp ho
 have F:=PK.vd hk hg
 have z:=u7 PK.nd (PK.named hk) q
 have e:=qt (x:=attr) q
 rw[show fs.lookup k=some r from hr]at z
 obtain⟨d,e3,e4⟩:=z
 obtain⟨a',f3,f4⟩:=F.at'
 rw[e3]at e
 exact get_own R.inv.fr PK.KX I F.get F.dict f3 f4 e (e4.handed hpl) (kk _ _ e4)
theorem BH{c:Cx}{fs:List (Nat×V)}{ds:List adZ}{k:Nat}{x:V}(q:aQ (FR c g) (e9 fs k x) ds)(h:fs.length<=100):ds.length<=1000:=
 q.length▸aah (BC fs k x) (aah (abE h) (by decide))
theorem vh(PK:cO m.c P K mg mb){v x:V}{rv rx:Value}{attr:Str}(vv:m.VR g v rv)(vx:m.VR g x rx):Wp m g st (ajf rv attr rx) (nh P v attr x st) ct:=by
 refine Wp.bx λa ha=>?_
 subst ha
 refine Wp.gH λC fs ho=>Wp.aG λk hk=>Wp.aL λhg=>Wp.intro λs Q E R kk=>?_
 obtain⟨hg,hlen⟩:=aab.mp hg
 obtain⟨a',y,rfl,hp⟩:=vv
 have f:=PK.vd hk hg
 obtain⟨ds,n,I,q⟩:=R.inv.inst hp ho
 obtain⟨pre,post,N,h1,h2,back⟩:=R.inv.BE hp ho I.dict
 have q':=BB (hsh:=PyData.keyHash m.c.w.params attr) (t:=s.toks+1) PK.nd (PK.named hk) vx q
 have X:=PK.KX.keeps R.inv.base
 exact set_plain X I f.set (osa_dict (s:={s with toks:=s.toks+1}) R.inv.fr N X I rfl f.over f.BF f.dict (congrArg Option.isSome (qt q)) h1 h2 (putName_dict _ _ _ _ _ _) rfl (BH q' (of_decide_eq_true hlen)) λh' F' N'=>
  kk g h' _ () (.refl g) ⟨back h' _ _ F' N' ⟨_,_,rfl,q'⟩,R.loc⟩ trivial)
def RelM(c:Cx)(g:Gs)(a:V×List V)(b:Value×Vs):Prop:=VR c g a.1 b.1∧aA c g a.2 b.2
theorem cO.BI{c:Cx}(PK:cO c P K mg mb){C f:Addr}{x:Str}{k:Nat}(hk:fQ P x=some k)(hf:P.e7.lookup (C,k)=some f):aO (ajs K C x=true) (aes K (.ref C) x=some (some (.ref f))) (isFn K (.ref f)=true):=by
 obtain⟨x',hx',hm⟩:=PK.e7 _ _ _ hf
 have hm:=aae.inj (hx'.symm.trans (PK.named hk))▸hm
 simp only[qs,abD,beq_iff_eq]at hm
 exact⟨hm.1.1,hm.1.2,hm.2⟩
theorem BJ{P:a9}(PK:cO m.c P K mg mb){a:Nat}{C:Addr}{fs:List (Nat×V)}{v:Value}{nm:Str}{pl:Sem Bool}{k:Nat}{f:Addr}(vv:m.VR g (.ref a) v)(ho:st.H[a]? =some (.inst C fs))
  (hk:fQ P nm=some k) (hn:(fs.lookup k).isNone=true) (hf:P.e7.lookup (C,k)=some f):Wp m g st (aiE v nm pl) (.ok (V.ah f,[V.ref a]) st) (RelM m.c):=by
 intro s Q E R kk
 obtain⟨x,y,rfl,hp⟩:=vv
 obtain⟨ds,n,I,q⟩:=R.inv.inst hp ho
 obtain⟨f1,f2,f3⟩:=PK.BI hk hf
 have z:=u7 PK.nd (PK.named hk) q
 have e:=qt (x:=nm) q
 rw[acb.mp hn]at z
 rw[show _=none from z]at e
 exact method_inst R.inv.fr PK.KX I f1 f2 f3 e (kk g s.heap s.toks _ (.refl g) R ⟨.ah f,.cons (.ref hp) .nil⟩)
end
section
variable {m:Am} {g:Gs} {st:St} {α:Type}
theorem BK{i:Int}{n k:Nat}(e:place i n=some k):aO (k<n) (0<=i) (k=i.toNat):=by
 unfold place at e
 by_cases h1:0<=i
 ·rw[if_pos h1]at e
  by_cases h2:i.toNat<n
  ·rw[if_pos h2]at e
   exact⟨aae.inj e▸h2,h1,(aae.inj e).symm⟩
  ·rw[if_neg h2]at e;contradiction
 ·rw[if_neg h1]at e;contradiction
structure lP(xs:List V)(i:Int)(k:Nat):Prop where
 lim:xs.length<=1048576
 lt:k<xs.length
 pos:0<=i
 is:k=i.toNat
 big:i<2 ^ 63
theorem nH(xs:List V)(i:Int):Still (jq xs i):=(fD _).bind λ_=>Still.aG _
theorem nI{xs:List V}{i:Int}{k:Nat}{st':St}(e:jq xs i st=.ok k st'):lP xs i k:=by
 obtain⟨_,h,e⟩:=(fD _).inv e
 have h:xs.length<=1048576:=of_decide_eq_true (hU h)
 obtain⟨h1,h2,h3⟩:=BK (nB e)
 exact⟨h,h1,h2,h3,by lia⟩
theorem lP.seq{xs:List V}{i:Int}{k n:Nat}(a:lP xs i k)(hn:xs.length=n):seqIndex? i n=some k:=by
 subst hn
 have hk:=a.lt
 rw[a.is]at hk
 unfold seqIndex?
 rw[if_neg (abI.mpr a.pos),a.is]
 exact if_pos (aab.mpr ⟨decide_eq_true a.pos,decide_eq_true ((ajV a.pos).mp hk)⟩)
theorem lP.item{xs:List V}{i:Int}{k:Nat}(a:lP xs i k){prog:acI}{w:World}{A:aaY}{E:Value->Sh}{s:aaC}{l:Addr}{vs:Vs}{r:Value}{u:Tok}{Q:Value->Sh}(hl:s.heap.IsList l vs.toArray)(hn:xs.length=vs.length)(e:vs[k]? =some r)(h:Q r s):
  wpAny (model prog w) A (agY (.ref l) (.int i u)) Q E s:=wpAny_getItem_list hl a.pos a.big (acC.trans (a.is▸e)) h
def BL(s:aaC)(o:Value):Prop:=bT λT id=>s.TypeIs o T∧ack (.type T) "__getitem__"=pure (some (.builtin id))
theorem vj{P:a9}{K:Frag}{mg mb:Str->Option Value}(PK:cO m.c P K mg mb){o i:V}{ro ri:Value}(vo:m.VR g o ro)(vi:m.VR g i ri){t:Sem Value}
  (W:∀ (s:aaC) (Q:Value->Sh) (E:Value->Sh),BL s ro->wpAny (model m.c.prog m.c.w) m.A (agY ro ri) Q E s->wpAny (model m.c.prog m.c.w) m.A t Q E s):Wp m g st t (cX o i st) m.VR:=by
 refine Wp.bx λa ha=>?_
 subst ha
 obtain⟨x,y,rfl,ha⟩:=vo
 refine Wp.obj λob ho=>?_
 cases ob with
 |list xs=>
  refine Wp.aX λj hj=>Wp.bI (nH _ _) λk hk=>Wp.lN λv hv=>Wp.val λs Q E R kk=>?_
  subst hj
  obtain⟨u,rfl⟩:=vi
  have z:=nI hk
  obtain⟨vs,h1,h2⟩:=R.inv.list ha ho
  obtain⟨r,h3,h4⟩:=h2.get hv
  exact W s Q E ⟨_,_,h1.typeIs,ajK.lookup⟩ (z.item h1 h2.length h3 (kk _ _ h4))
 |tuple xs=>
  refine Wp.aX λj hj=>Wp.bI (nH _ _) λk hk=>Wp.lN λv hv=>Wp.val λs Q E R kk=>?_
  subst hj
  obtain⟨u,rfl⟩:=vi
  have z:=nI hk
  obtain⟨vs,h1,h2⟩:=R.inv.tuple ha ho
  obtain⟨r,h3,h4⟩:=h2.get hv
  have h1:IsTup s.heap x vs.toArray:=by obtain⟨o,z1,z2,n,z3⟩:=h1;exact⟨o,z1,z2,n,z3⟩
  exact W s Q E ⟨_,_,h1.typeIs,slot_tuple_getitem.lookup⟩ (ajW (j:=k) h1 (abX (by decide) z.pos) z.big (z.seq (h2.length.trans aaE.symm)) (acC.trans h3) (kk _ _ h4))
 |dict es=>
  refine Wp.aX λj hj=>Wp.lN λv hv=>Wp.val λs Q E R kk=>?_
  subst hj
  obtain⟨u,rfl⟩:=vi
  obtain⟨kvs,h1,h2⟩:=R.inv.dict ha ho
  have z:=lO h2 j
  rw[hv]at z
  obtain⟨r,hval,z⟩:=z
  exact W s Q E ⟨_,_,h1.mapOf.typeIs,slot_dict_getitem.lookup⟩ (wpAny_getItem_of (intKind_is _ _ j u) h1.mapOf hval (kk _ _ z))
 |_=>exact Wp.no
theorem BM{P:a9}{K:Frag}{mg mb:Str->Option Value}(PK:cO m.c P K mg mb){o i:V}{ro ri:Value}(vo:m.VR g o ro)(vi:m.VR g i ri):Wp m g st (agY ro ri) (cX o i st) m.VR:=vj PK vo vi λ_ _ _ _ h=>h
noncomputable def qu (slice:Expr) (o i:Value):Vs:=aaO (motive_1:=λ_=>Vs) slice (λx0 x1 x2=>[o,i]) (λx0 x1 x2=>[o,i]) (λx0 x1 x2 x3=>[o,i]) (λx0 x1 x2=>[o,i]) (λx0 x1 x2 x3=>[o,i]) (λx0 x1 x2 x3=>[o,i]) (λx0 x1 x2=>[o,i]) (λx0 x1 x2=>[o,i]) (λx0 x1 x2 x3=>[o,i]) (λx0 x1 x2 x3=>[o,i]) (λx0 x1 x2 x3 x4=>[o,i]) (λx0 x1 x2 x3=>[o,i]) (λx0 x1=>[o,i]) (λx0 x1=>[o,i]) (λx0 x1=>[o,i]) (λx0 x1 x2 x3=>[o,i]) (λx0 x1 x2 x3=>[o,i]) (λx0 x1 x2 x3=>[o,i]) (λx0 x1=>[o,i]) (λx0 x1 x2=>[o,i]) (λx0 x1 x2=>[o,i]) (λx0 x1 x2=>[o,i]) (λx0 x1=>[o,i]) (λx0 x1=>[o,i]) (λx0 x1=>[o,i]) (λx0 x1 x2=>[o,i]) (λa b c p=>ags (motive:=λ_=>Vs) c [i,o] λ_=>[o,i])
theorem BN(slice:Expr)(o i:Value):ajg slice false o i=aic (qu slice o i) (agY o i):=
 aaO (motive_1:=λslice=>ajg slice false o i=aic (qu slice o i) (agY o i)) slice (λ_ _ _=>rfl) (λ_ _ _=>rfl) (λ_ _ _ _=>rfl) (λ_ _ _=>rfl) (λ_ _ _ _=>rfl) (λ_ _ _ _=>rfl) (λ_ _ _=>rfl) (λ_ _ _=>rfl) (λ_ _ _ _=>rfl) (λ_ _ _ _=>rfl) (λ_ _ _ _ _=>rfl) (λ_ _ _ _=>rfl) (λ_ _=>rfl) (λ_ _=>rfl) (λ_ _=>rfl) (λ_ _ _ _=>rfl) (λ_ _ _ _=>rfl) (λ_ _ _ _=>rfl) (λ_ _=>rfl) (λ_ _ _=>rfl) (λ_ _ _=>rfl) (λ_ _ _=>rfl) (λ_ _=>rfl) (λ_ _=>rfl) (λ_ _=>rfl) (λ_ _ _=>rfl) (λa b c p=>ags (motive:=λc=>ajg (.Slice a b c p) false o i=aic (qu (.Slice a b c p) o i) (agY o i)) c rfl λ_=>rfl)
theorem qv{prog:acI}{w:World}{A:aaY}{E:Value->Sh}{s:aaC}{value slice:Expr}{o i:Value}{T id:String}{Q:Value->Sh}(hT:s.TypeIs o T)
  (hl:ack (.type T) "__getitem__"=pure (some (.builtin id))) (hg:wpAny (model prog w) A (agY o i) Q E s):wpAny (model prog w) A (aeZ value slice o i) Q E s:=by
 exact tail_any hT hl hg (BN slice o i)
theorem BO{P:a9}{K:Frag}{mg mb:Str->Option Value}(PK:cO m.c P K mg mb){o i:V}{ro ri:Value}{value slice:Expr}(vo:m.VR g o ro)(vi:m.VR g i ri):
  Wp m g st (aeZ value slice ro ri) (cX o i st) m.VR:=vj PK vo vi λs Q E h=>by
 obtain⟨T,id,h1,h2⟩:=h
 exact qv h1 h2
theorem aA.take{c:Cx}{g:Gs}{xs:List V}{vs:Vs}(q:aA c g xs vs):∀ n:Nat,aA c g (xs.take n) (vs.take n):=by
 induction q using aQ.ind with
 |nil=>exactλn=>by rw[ajn,ajn];exact .nil
 |cons a _ ih=>exactλn=>by cases n with |zero=>exact .nil |succ n=>exact .cons a (ih n)
theorem aA.drop{c:Cx}{g:Gs}{xs:List V}{vs:Vs}(q:aA c g xs vs):∀ n:Nat,aA c g (xs.drop n) (vs.drop n):=by
 induction q using aQ.ind with
 |nil=>exactλn=>by rw[ajo,ajo];exact .nil
 |cons a t ih=>exactλn=>by cases n with |zero=>exact .cons a t |succ n=>exact ih n
theorem aA.cM{c:Cx}{g:Gs}{xs:List V}{vs:Vs}(q:aA c g xs vs)(lo hi:Option Int):aA c g (Lite.cM xs lo hi) (kms_pick vs lo hi):=by
 unfold Lite.cM kms_pick
 rw[aA.length q]
 exact aA.take (aA.drop q _) _
theorem vn(x:Int):(max 0 x).toNat=x.toNat:=by
 rcases Int.le_total 0 x with h |h
 ·rw[Int.max_eq_right h]
 ·rw[Int.max_eq_left h,Int.toNat_of_nonpos h];rfl
theorem vp(n:Nat)(lo:Option Int):lo.elim 0 (clipAt n)=kms_lo lo n:=by
 cases lo with
 |none=>rfl
 |some i=>
  show clipAt n i=if i<0 then n-(-i).toNat else min i.toNat n
  unfold clipAt
  by_cases h:i<0
  ·obtain⟨k,hk⟩:=abf (Int.neg_nonneg_of_nonpos (acg h))
   rw[if_pos h,if_pos h,agv (abX (ahx (acg h) n) (ajX (aeV _))),vn,hk,<-Int.neg_neg i,hk,abk,ahn,<-Int.sub_eq_add_neg,agQ]
  ·obtain⟨k,rfl⟩:=abf (abI.mp h)
   rw[if_neg h,if_neg h,vn,abk]
   rcases Nat.le_total k n with h |h
   ·rw[agv (abg.mpr h),acp h];rfl
   ·rw[aiK (abg.mpr h),adQ h];rfl
theorem BP(n:Nat)(hi:Option Int):hi.elim n (clipAt n)=kms_hi hi n:=by
 cases hi with
 |none=>rfl
 |some i=>exact vp n (some i)
theorem BQ(b:By)(lo hi:Option Int):KBy.picked b.toArray lo hi=(Lite.cM b lo hi).toArray:=by
 rw[KBc.picked_eq,aaE,vp,BP]
 rfl
end
section
variable {m:Am} {g:Gs} {st:St} {α:Type}
theorem Rel.push{h:Heap}(R:Rel m g st h)(o:Obj):Rel m g st (h.push o):=R.keeps λb ob e=>aaF _ e
theorem Rel.vq{h:Heap}{o:O}{ob:Obj}(R:Rel m g st h)(n:o.dX=false)(hf:ob.isFreed=false)
  (hP:b5 m.c (g.lay (h.objs.size,h.objs.size)) (h.objs.size,h.objs.size) o ob):
  Rel m (g.lay (h.objs.size,h.objs.size)) {st with H:=st.H++[o]} (h.push ob):=
 (R.push ob).jx (R.inv.free (dP h)) n (aaX _ hf) hP
theorem nJ{t:Sem Value}{o:O}(n:o.dX=false)
  (h:∀ (s:aaC) (Q:Value->Sh) (E:Value->Sh),Rel m g st s.heap->
   (∀ (h':Heap) ob tk,Rel m g st h'->ob.isFreed=false->b5 m.c g (0,0) o ob->Q (.ref h'.objs.size) {s with heap:=h'.push ob,toks:=tk})->wpAny (model m.c.prog m.c.w) m.A t Q E s)
  (hp:∀ g p ob,b5 m.c g (0,0) o ob->b5 m.c g p o ob):Wp m g st t (.ok (.ref st.H.length) {st with H:=st.H++[o]}) m.VR:=by
 refine Wp.intro λs Q E R k=>h s Q E R λh' ob tk R' hf hob=>?_
 have R2:=R'.vq (o:=o) n hf (b5.mono (fc g _) (hp g _ ob hob))
 exact k _ _ tk _ (fc g _) R2 (.ref R'.last)
theorem BR{c:Cx}{g:Gs}{vs:Vs}{l:List Int}(h:agX vs l):aA c g (l.map .int) vs:=by
 induction h with
 |nil=>exact .nil
 |cons i t _ ih=>exact .cons (.int i t) ih
theorem vr{a:Addr}{xs:List V}{vl vu:Value}{lo hi:Option Int}{value slice:Expr}{sp:Pos}(pl:IsPart vl lo)(pu:IsPart vu hi)(hg:decide (xs.length<=lim)=true)
  (hl:∀ s:aaC,Rel m g st s.heap->∃ vs:Vs,s.heap.IsList a vs.toArray∧aA m.c g xs vs):
  Wp m g st (agZ "slice" [vl,vu,.none]>>=λi=>acr sp>>=λ_=>aeZ value slice (.ref a) i) (alloc (.list (cM xs lo hi)) st) m.VR:=by
 refine nJ (o:=.list (cM xs lo hi)) rfl (λs Q E R k=>?_) λg p ob q=>q
 obtain⟨vs,hl,hv⟩:=hl s R
 refine wpAny_bind (acU (wpAny_bind (agj ?_)))
 refine qv (hl.push _).typeIs ajK.lookup ?_
 refine wpAny_getItem_list_slice (hl.push _) (aex ..) pl pu .none (by simp) (k _ _ _ (R.push _) rfl ⟨(slicePick vs.toArray lo hi none).toList,0,by simp,?_⟩) ?_
 ·rw[kms_pick_eq]
  exact aA.cM hv lo hi
 ·rw[aaE,<-hv.length]
  exact aah (of_decide_eq_true hg) (by decide)
theorem BS{o:V}{ro vl vu:Value}{lo hi:Option Int}{value slice:Expr}{sp:Pos}(vo:m.VR g o ro)(pl:IsPart vl lo)(pu:IsPart vu hi):
  Wp m g st (agZ "slice" [vl,vu,.none]>>=λi=>acr sp>>=λ_=>aeZ value slice ro i) (fA o lo hi st) m.VR:=by
 refine Wp.aL λhsm=>?_
 cases o with
 | «ints» l=>
  refine Wp.aL λhg=>?_
  obtain⟨a,vs,rfl,h,hi'⟩:=vo
  have e:(cM l lo hi).map V.int=cM (l.map V.int) lo hi:=by unfold Lite.cM;simp
  rw[e]
  refine vr pl pu (by rw[aad];exact hg) λs R=>⟨vs,?_,BR (c:=m.c) (g:=g) hi'⟩
  obtain⟨o,h1,h2,n,h3⟩:=h
  exact⟨o,R.inv.base _ _ h1,h2,n,h3⟩
 |bytes b=>
  obtain⟨t,rfl⟩:=vo
  refine Wp.aL λhg=>Wp.intro λs Q E R k=>?_
  have hg:b.length<=1048576:=of_decide_eq_true hg
  refine wpAny_bind (acU (wpAny_bind (agj ?_)))
  refine qv (acv _ _ _) adM.lookup ?_
  refine getItem_meets (acv _ _ _) (by decide) adM FB.entry_bytes_getitem (FB.args_bytes_getitem_2 _ _) (KBc.meets_slice2 b.toArray t _ pl pu) ⟨aex _ _ _ _,?_,λt' kk=>?_⟩
  ·have:=KBc.size_picked_le b.toArray lo hi
   rw[iN];simp only[aaE]at this;lia
  ·rw[BQ]
   exact k g _ _ _ (.refl g) (R.push _) (.bytes _ _)
 |ref a=>
  obtain⟨x,y,rfl,ha⟩:=vo
  exact Wp.bV λxs hxs=>Wp.aL λhg=>vr pl pu hg λs R=>R.inv.list ha hxs
 |_=>exact Wp.no
theorem Wp.turned{β:Type}{t:Sem β}{b:β}{a:Nat}{o o':O}{x y:Addr}(hp:g.ρ[a]? =some (x,y))(ho:st.H[a]? =some o)(n1:o.dX=false)(n2:o'.dX=false){rel:Gs->Unit->β->Prop}(hrel:rel g () b)
  (h:∀ (s:aaC) (Q:β->Sh) (E:Value->Sh),Rel m g st s.heap->
   (∀ h' ob tk,acD x s.heap h'->h'.get? x=some ob->b5 m.c g (x,y) o' ob->Q b {s with heap:=h',toks:=tk})->wpAny (model m.c.prog m.c.w) m.A t Q E s):
  Wp m g st t (Lite.put a o' st) rel:=
 Wp.intro λs Q E R k=>h s Q E R λh' ob tk hs hob hP=>k g h' tk b (.refl g) (R.put hp ho n1 n2 (λb hb=>hs.2 b hb) hob hP) hrel
theorem aA.set{c:Cx}{g:Gs}{xs:List V}{vs:Vs}{v:V}{r:Value}(q:aA c g xs vs)(h:VR c g v r):∀ k:Nat,aA c g (xs.set k v) (vs.set k r):=by
 induction q using aQ.ind with
 |nil=>exactλk=>.nil
 |cons a b ih=>exactλk=>by cases k with |zero=>exact .cons h b |succ k=>exact .cons a (ih k)
theorem aA.eraseIdx{c:Cx}{g:Gs}{xs:List V}{vs:Vs}(q:aA c g xs vs):∀ k:Nat,aA c g (xs.eraseIdx k) (vs.eraseIdx k):=by
 induction q using aQ.ind with
 |nil=>exactλk=>.nil
 |cons a b ih=>exactλk=>by cases k with |zero=>exact b |succ k=>exact .cons a (ih k)
theorem vt(vs:Vs)(n k:Nat)(v:Value):agM (λx=>x.setIfInBounds k v) (listOf vs.toArray n)=listOf (vs.set k v).toArray n:=by
 show(⟨_,_,.seq _ (if _==_ then _ else _),_⟩:Obj)=_
 simp
section
variable {c:Cx} {g:Gs} {α β:Type} [DecidableEq α] [DecidableEq β] {r:α->β->Prop} {es:List (α×V)} {kvs:List (β×Value)} {k:α} {k':β} {v:V} {rv:Value}
theorem BU(inj:kB r)(q:Pairs c g r es kvs)(hk:r k k'):(es.lookup k).isSome=kvs.any (λkv=>kv.1=k'):=by
 refine aQ.fold q rfl λa b as bs h _ ih=>?_
 have w:=inj _ _ _ _ hk h.1
 rw[aay,agL]
 by_cases e:k=a.1
 ·rw[beq_iff_eq.mpr e,decide_eq_true (w.mp e).symm];rfl
 ·rw[beq_eq_false_iff_ne.mpr e,decide_eq_false λz=>e (w.mpr z.symm)];exact ih
theorem BV(inj:kB r)(q:Pairs c g r es kvs)(hk:r k k')(hv:VR c g v rv):Pairs c g r (es.map λp=>if p.1=k then (p.1,v)else p) (kvs.map λkv=>if kv.1=k' then (kv.1,rv)else kv):=by
 refine aQ.fold q .nil λa b as bs h _ ih=>.cons ?_ ih
 have w:=inj _ _ _ _ h.1 hk
 dsimp only
 by_cases e:a.1=k
 ·rw[if_pos e,if_pos (w.mp e)];exact⟨h.1,hv⟩
 ·rw[if_neg e,if_neg λz=>e (w.mpr z)];exact h
theorem BW(inj:kB r)(q:Pairs c g r es kvs)(hk:r k k')(hv:VR c g v rv):Pairs c g r (dput es k v) (stored kvs k' rv):=by
 unfold dput stored
 rw[BU inj q hk]
 cases kvs.any (λkv=>kv.1=k')with
 |true=>exact BV inj q hk hv
 |false=>exact aQ.fold q (.cons ⟨hk,hv⟩ .nil) λ_ _ _ _ h _ ih=>.cons h ih
theorem BX(inj:kB r)(q:Pairs c g r es kvs)(hk:r k k'):Pairs c g r (fz es k) (without kvs k'):=by
 unfold fz without
 refine aQ.fold q .nil λa b as bs h _ ih=>?_
 have w:=inj _ _ _ _ h.1 hk
 rw[adN,adN]
 by_cases e:a.1=k
 ·rw[decide_eq_false (not_not_intro e),decide_eq_false (not_not_intro (w.mp e))];exact ih
 ·rw[decide_eq_true e,decide_eq_true (show b.1≠k' fromλz=>e (w.mpr z))];exact .cons h ih
end
theorem qw{α β:Type}{R:α->β->Prop}{l:List α}{l':List β}(q:aQ R l l')(h:decide (l.length<=lim)=true):l'.length<=adV:=q.length▸aah (of_decide_eq_true h) (by decide)
theorem BY{h:Heap}{x:Addr}{vs:Vs}{n k:Nat}{v:Value}(h1:h.get? x=some (listOf vs.toArray n)):(h.update x (agM (·.setIfInBounds k v))).get? x=some (listOf (vs.set k v).toArray n):=by
 rw[abO _ h1 (by rw[vt];rfl),vt]
theorem vz{P:a9}{K:Frag}{mg mb:Str->Option Value}(PK:cO m.c P K mg mb){o i v:V}{ro ri rv:Value}(vo:m.VR g o ro)(vi:m.VR g i ri)(vv:m.VR g v rv):Wp m g st (aid ro ri rv) (dN o i v st) ct:=by
 refine Wp.bx λa hA=>?_
 subst hA
 obtain⟨x,y,rfl,ha⟩:=vo
 refine Wp.obj λob ho=>?_
 cases ob with
 |list xs=>
  refine Wp.aX λj hj=>Wp.bI (nH _ _) λk hk=>Wp.turned (b:=()) ha ho rfl rfl trivial λs Q E R kk=>?_
  subst hj
  obtain⟨u,rfl⟩:=vi
  have z:=nI hk
  obtain⟨vs,n,h1,h2⟩:=R.inv.jA ha ho
  have hl:vs.toArray.size=xs.length:=aaE.trans h2.length.symm
  have kk:=kk _ _ s.toks (acH s.heap x (agM (·.setIfInBounds k rv))) (BY h1) ⟨_,n,rfl,h2.set vv _⟩
  have hk:=z.lt
  have hb:=z.big
  have p2:=z.is
  subst p2
  exact ki_setAt (n:=n) h1 z.pos hb (by rw[hl];exact(ajV z.pos).mp hk) kk
 |dict es=>
  refine Wp.aL λhg=>Wp.aX λj hj=>Wp.turned (b:=()) ha ho rfl rfl trivial λs Q E R kk=>?_
  subst hj
  obtain⟨u,rfl⟩:=vi
  obtain⟨kvs,h1,h2⟩:=R.inv.dict ha ho
  refine wpAny_setItem_pairs (intKind_is _ _ j u) h1 (λh' hm hs=>?_) (qw h2 hg)
  obtain⟨ob',es',ep,e1,e2⟩:=hm
  exact kk h' ob' _ hs e1 ⟨_,⟨es',ep,e2⟩,BW qq h2 rfl vv⟩
 |_=>exact Wp.no
theorem BZ{A:aaY}{prog:acI}{w:World}{E:Value->Sh}{s:aaC}{x:Addr}{kvs:List (Int×Value)}{j:Int}{u:Tok}{Q:Unit->Sh}(hD:s.heap.DictOf (aia prog w) x kvs)(hl:kvs.length<=adV)(ht:(aib kvs j).isSome=true)
  (h:∀ h',h'.DictOf (aia prog w) x (without kvs j)->acD x s.heap h'->∀ tk,Q () {s with heap:=h',toks:=tk}):wpAny (model prog w) A (delItem (.ref x) (.int j u)) Q E s:=by
 unfold delItem
 refine abT ?_
 refine wpAny_bind (ajL hD.typeIs (by decide) ?_)
 exact wpAny_bind (adG (name:=ada "__delitem__") hD.typeIs agg
  (aiF agg hD.typeIs PySem.F.entry_dict_delitem (PySem.F.args_dict_delitem_2 _ _) (meets_dict_delitem_pairs _ x (intKind_is _ _ j u)) ⟨kvs,hD,hl,ht,λh' hm hs=>aai (h h' hm hs _)⟩))
theorem B0{o i:V}{ro ri:Value}(vo:m.VR g o ro)(vi:m.VR g i ri):Wp m g st (delItem ro ri) (jt o i st) ct:=by
 refine Wp.bx λa hA=>?_
 subst hA
 obtain⟨x,y,rfl,ha⟩:=vo
 refine Wp.obj λob ho=>?_
 cases ob with
 |list xs=>
  refine Wp.aX λj hj=>Wp.bI (nH _ _) λk hk=>Wp.turned (b:=()) ha ho rfl rfl trivial λs Q E R kk=>?_
  subst hj
  obtain⟨u,rfl⟩:=vi
  have z:=nI hk
  obtain⟨vs,n,h1,h2⟩:=R.inv.jA ha ho
  have hl:xs.length=vs.toArray.size:=h2.length.trans aaE.symm
  exact delItem_at h1 (aab.mpr ⟨decide_eq_true (abX (by decide) z.pos),decide_eq_true z.big⟩) (z.seq hl) (λh' hs ho'=>kk h' _ _ hs ho' ⟨vs.eraseIdx k,n+1,rfl,h2.eraseIdx k⟩) (hl▸aah z.lim (by decide))
 |dict es=>
  refine Wp.aL λhg=>Wp.aX λj hj=>Wp.aG λold hold=>Wp.turned (b:=()) ha ho rfl rfl trivial λs Q E R kk=>?_
  subst hj
  obtain⟨u,rfl⟩:=vi
  obtain⟨kvs,hD,h2⟩:=R.inv.dict ha ho
  refine BZ hD (qw h2 hg) ((lO h2 j).isSome▸hold▸rfl) λh' hm hs tk=>?_
  obtain⟨ob',es',ep,e1,e2⟩:=hm
  exact kk h' ob' _ hs e1 ⟨_,⟨es',ep,e2⟩,BX qq h2 rfl⟩
 |_=>exact Wp.no
end
def Np{α β:Type}(m:Am)(g:Gs)(st:St)(t:Sem β)(r:R α)(rel:Gs->α->β->Prop):Prop:=
 ∀ (s:aaC) (Q:β->Sh) (E:Value->Sh),Rel m g st s.heap->bW m g r rel Q E s->ao (model m.c.prog m.c.w) m.A t Q E s
def dr{α β:Type}(m:Am)(t:Sem β)(f:M α)(rel:Gs->α->β->Prop):Prop:=∀ g st,Np m g st t (f st) rel
section
variable {α β γ δ:Type} {m:Am} {g:Gs} {st:St}
theorem Wp.np{t:Sem β}{r:R α}{rel:Gs->α->β->Prop}(h:Wp m g st t r rel):Np m g st t r rel:=λs Q E R P=>bt (h s Q E R P)
theorem Np.bind{t:Sem β}{k:β->Sem δ}{f:M α}{f':α->M γ}{rel:Gs->α->β->Prop}{rel':Gs->γ->δ->Prop}(h:Np m g st t (f st) rel)
  (h':∀ a st₁ g₁ b,f st=.ok a st₁->Ext g g₁->rel g₁ a b->Np m g₁ st₁ (k b) (f' a st₁) rel'):Np m g st (t>>=k) ((f>>=f') st) rel':=by
 intro s Q E R P
 refine az (h s _ E R ?_)
 cases e:f st with
 |ok a st₁=>
  rw[cb e]at P
  exactλg₁ h₁ tk b x R₁ q=>h' a st₁ g₁ b e x q _ Q E R₁ (P.shift x)
 |exc k st₁=>
  rw[fV e]at P
  exact P
 |no=>
  rw[eG e]at P
  exact P.elim
theorem Np.pure{a:α}{b:β}{rel:Gs->α->β->Prop}(q:rel g a b):Np m g st (aak b:Sem β) ((aak a:M α) st) rel:=(Wp.pure q).np
theorem Np.no{t:Sem β}{rel:Gs->α->β->Prop}:Np m g st t (.no:R α) rel:=λ_ _ _ _ P=>P.elim
theorem B1{t:Sem β}{r r':R α}{rel:Gs->α->β->Prop}(e:r=r')(h:Np m g st t r' rel):Np m g st t r rel:=e▸h
theorem vA{t:Sem β}{t':Sem δ}{r:R α}{rel:Gs->α->β->Prop}{rel':Gs->α->δ->Prop}(h:Np m g st t r rel)(f:β->δ)(hr:∀ g' a b,rel g' a b->rel' g' a (f b))
  (k:∀ (s:aaC) (Q:δ->Sh) (E:Value->Sh),ao (model m.c.prog m.c.w) m.A t (λb=>Q (f b)) E s->ao (model m.c.prog m.c.w) m.A t' Q E s):Np m g st t' r rel':=
 λs Q E R P=>k s Q E (h s (λb=>Q (f b)) E R (by
  cases r with
  |ok a st'=>exactλg' h' tk b x R' q=>P g' h' tk (f b) x R' (hr _ _ _ q)
  |exc k st'=>exact P
  |no=>exact P))
theorem Np.holding{vs:Vs}{t:Sem β}{r:R α}{rel:Gs->α->β->Prop}(h:Np m g st t r rel):Np m g st (abb vs t) r rel:=λs Q E R P=>bN (h s Q E R P)
theorem Np.standAt{p:Pos}{k:Unit->Sem β}{r:R α}{rel:Gs->α->β->Prop}(h:Np m g st (k ()) r rel):Np m g st (PySem.standAt p>>=k) r rel:=λs Q E R P=>cV (h s Q E R P)
theorem Np.step{t:Sem γ}{c:γ}{k:γ->Sem β}{r:R α}{rel:Gs->α->β->Prop}(hs:∀ (s:aaC) (Q:γ->Sh) (E:Value->Sh),Q c s->wpAny (model m.c.prog m.c.w) m.A t Q E s)
  (h:Np m g st (k c) r rel):Np m g st (t>>=k) r rel:=λs Q E R P=>aC (hs s _ E (h s Q E R P))
theorem Np.release{vs keep:Vs}{k:Unit->Sem β}{r:R α}{rel:Gs->α->β->Prop}(h:Np m g st (k ()) r rel):Np m g st (aiT vs keep>>=k) r rel:=λs Q E R P=>aC (aek (h s Q E R P))
theorem fJ{c:γ}{k:γ->Sem β}{r:R α}{rel:Gs->α->β->Prop}(h:Np m g st (k c) r rel):Np m g st (aak c>>=k) r rel:=λs Q E R P=>aC (aai (h s Q E R P))
theorem Np.aL{b:Bool}{f:Unit->M α}{t:Sem β}{rel:Gs->α->β->Prop}(h:b=true->Np m g st t (f () st) rel):Np m g st t ((Lite.guard b>>=f) st) rel:=by
 cases b with
 |false=>exact Np.no
 |true=>exact h rfl
theorem Np.aG{o:Option γ}{f:γ->M α}{t:Sem β}{rel:Gs->α->β->Prop}(h:∀ a,o=some a->Np m g st t (f a st) rel):Np m g st t ((Lite.aG o>>=f) st) rel:=gM (Pr:=λr=>Np m g st t r rel) Np.no h
theorem Np.lN{o:Option α}{t:Sem β}{rel:Gs->α->β->Prop}(h:∀ a,o=some a->Np m g st t (.ok a st) rel):Np m g st t (Lite.aG o st) rel:=by
 cases o with
 |none=>exact Np.no
 |some a=>exact h a rfl
theorem Np.bV{a:Nat}{f:List V->M α}{t:Sem β}{rel:Gs->α->β->Prop}(h:∀ x,st.H[a]? =some (.list x)->Np m g st t (f x st) rel):Np m g st t ((Lite.bV a>>=f) st) rel:=jy ku (Pr:=λr=>Np m g st t r rel) Np.no h
theorem Np.iI{a:Nat}{f:List V->M α}{t:Sem β}{rel:Gs->α->β->Prop}(h:∀ x,st.H[a]? =some (.tuple x)->Np m g st t (f x st) rel):Np m g st t ((Lite.iI a>>=f) st) rel:=jy qf (Pr:=λr=>Np m g st t r rel) Np.no h
theorem Np.dictAt{a:Nat}{f:List (Int×V)->M α}{t:Sem β}{rel:Gs->α->β->Prop}(h:∀ x,st.H[a]? =some (.dict x)->Np m g st t (f x st) rel):Np m g st t ((Lite.dictAt a>>=f) st) rel:=jy AX (Pr:=λr=>Np m g st t r rel) Np.no h
theorem Np.iJ{a:Nat}{f:By->M α}{t:Sem β}{rel:Gs->α->β->Prop}(h:∀ x,st.H[a]? =some (.bG x)->Np m g st t (f x st) rel):Np m g st t ((Lite.iJ a>>=f) st) rel:=jy AY (Pr:=λr=>Np m g st t r rel) Np.no h
theorem Np.bI{F:M γ}{f:γ->M α}{t:Sem β}{rel:Gs->α->β->Prop}(hF:Still F)(h:∀ x,F st=.ok x st->Np m g st t (f x st) rel):Np m g st t ((F>>=f) st) rel:=gq (Pr:=λr=>Np m g st t r rel) hF Np.no h
theorem Np.obj{a:Nat}{f:O->M α}{t:Sem β}{rel:Gs->α->β->Prop}(h:∀ o,st.H[a]? =some o->Np m g st t (f o st) rel):Np m g st t ((Lite.obj a>>=f) st) rel:=uR (Pr:=λr=>Np m g st t r rel) Np.no h
theorem Np.aX{v:V}{f:Int->M α}{t:Sem β}{rel:Gs->α->β->Prop}(h:∀ i,v=.int i->Np m g st t (f i st) rel):Np m g st t ((Lite.aX v>>=f) st) rel:=Np.aG λi e=>h i (g9 e)
theorem Np.gh{v:V}{f:Bool->M α}{t:Sem β}{rel:Gs->α->β->Prop}(h:∀ i,v=.bool i->Np m g st t (f i st) rel):Np m g st t ((Lite.gh v>>=f) st) rel:=Np.aG λi e=>h i (qe e)
theorem Np.bx{v:V}{f:Nat->M α}{t:Sem β}{rel:Gs->α->β->Prop}(h:∀ i,v=.ref i->Np m g st t (f i st) rel):Np m g st t ((Lite.bx v>>=f) st) rel:=Np.aG λi e=>h i (hH e)
theorem Np.eZ{v:V}{f:By->M α}{t:Sem β}{rel:Gs->α->β->Prop}(h:∀ i,v=.bytes i->Np m g st t (f i st) rel):Np m g st t ((Lite.eZ v>>=f) st) rel:=Np.aG λi e=>h i (nA e)
theorem Np.m6{v:V}{f:String->M α}{t:Sem β}{rel:Gs->α->β->Prop}(h:∀ i,v=.ty i->Np m g st t (f i st) rel):Np m g st t ((Lite.m6 v>>=f) st) rel:=Np.aG λi e=>h i (AW e)
end
section
open Builtin
theorem B2:ack (.type "int") "__bytes__"=pure none:=by rw[aaQ,aaA];kernel_rfl
theorem B3:ack (.type "bytes") "__bytes__"=pure (some (.builtin "bytes.__bytes__")):=by rw[aaQ,aaA];kernel_rfl
theorem B4:ack (.type "bytearray") "__bytes__"=pure none:=by rw[aaQ,aaA];kernel_rfl
theorem B6:ack (.type "bytearray") "__index__"=pure none:=by rw[aaQ,aaA];kernel_rfl
theorem vB:ack (.type "bytes") "__index__"=pure none:=by rw[aaQ,aaA];kernel_rfl
theorem B7:∃ v,ack (.type "int") "__index__"=pure (some v):=⟨.builtin "int.__index__",by rw[aaQ,aaA];kernel_rfl⟩
theorem qx:ack (.type "bytearray") "__buffer__"=pure (some (.builtin "bytearray.__buffer__")):=by rw[aaQ,aaA];kernel_rfl
theorem jB:ack (.type "bytes") "__buffer__"=pure (some (.builtin "bytes.__buffer__")):=by rw[aaQ,aaA];kernel_rfl
theorem B8:ack (.type "bytearray") "__release_buffer__"=pure (some (.builtin "bytearray.__release_buffer__")):=by rw[aaQ,aaA];kernel_rfl
theorem B9:ack (.type "bytes") "__release_buffer__"=pure none:=by rw[aaQ,aaA];kernel_rfl
theorem qy:aha (.type "bytearray") (.type "bytearray")=pure true:=by rw[abM];kernel_rfl
theorem vC:aha (.type "bytes") (.type "bytes")=pure true:=by rw[abM];kernel_rfl
def cH(h:Heap)(a:Addr)(b:By):Prop:=h.get? a=some {cls:=.type "bytearray",data:=.bytearray b.toArray 0}
section
variable {prog:acI} {w:World} {A:aaY} {E:Value->Sh} {s:aaC}
theorem cH.type{a:Addr}{b:By}(h:cH s.heap a b):s.TypeIs (.ref a) "bytearray":=⟨_,h,rfl⟩
theorem Ca{v:Value}{R:aez->Sh}
  (h:wpAny (model prog w) A.in1 (aaD.«bytes.__new__» ⟨[.type "bytes",v],[]⟩) (λfin s'=>match fin with | .done f=>R (.ok f) s' | .again c'=>c'.quiet=true∧ajc (model prog w) A c' R s') (λe s'=>R (.error e) s') s):
  ajc (model prog w) A (.call (.builtin "bytes.__new__") ⟨[.type "bytes",v],[]⟩) R s:=by
 refine codeAny_of_tree ?_
 show wpAny _ A.in1 (do abS "bytes.__new__" ⟨[.type "bytes",v],[]⟩;again (.builtin "bytes.__new__" ⟨[.type "bytes",v],[]⟩)) _ _ s
 refine wpAny_bind (aaB (F.bm_newCall _) (aai ⟨aeX F.bm_plain _,afr F.bm_entry ?_⟩))
 rw[adb F.bm_plain _]
 exact h
theorem qz{v:Value}{Q:Value->Sh}
  (h:wpAny (model prog w) A.in1.in1 (aaD.«bytes.__new__» ⟨[.type "bytes",v],[]⟩) (λfin s'=>∃ b t,fin=.done (.ret (.bytes b t))∧Q (.bytes b t) s') E s):
  wpAny (model prog w) A (aal (.type "bytes") [v]) Q E s:=by
 refine callType_codes (Q₁:=λobj s₁=>s₁.TypeIs obj "bytes"∧Q obj s₁) aiv (F.bm_typeCall _) F.entry_object_init
  (Ca (agB h (λfin s' ⟨b,t,e,q⟩=>by subst e;exact⟨acv _ _ _,q⟩) λe s' q=>q)) λobj s₁ h₁=>?_
 exact⟨h₁.1,aiq obj _,object_init_meets aiv.init.lookup aiv.made (by decide) prog w A.in1 _ s₁ ⟨h₁.1,rfl,h₁.2⟩⟩
theorem Cb{n:Int}{u:Tok}{Q:Value->Sh}(h0:0<=n)(h1:n<=1048576)(h:∀ t k,Q (.bytes (aiw n.toNat 0) t) {s with toks:=k}):wpAny (model prog w) A (aal (.type "bytes") [.int n u]) Q E s:=by
 refine qz ?_
 obtain⟨vi,hvi⟩:=B7
 have hT:=ajJ s n u
 unfold aaD.«bytes.__new__»
 refine wpAny_bind (aaB (a:=true) rfl ?_)
 refine abn rfl ?_
 refine wpAny_bind (aaB F.bm_sub ?_)
 refine abn rfl ?_
 refine wpAny_bind (aaB (ajA _) ?_)
 refine wpAny_bind (aaB (a:=()) rfl ?_)
 refine wpAny_bind (aaB (a:=()) rfl ?_)
 refine abn rfl ?_
 refine wpAny_bind (aaN hT B2 ?_)
 dsimp only
 refine wpAny_bind (aaB (a:=false) rfl ?_)
 refine abn rfl ?_
 refine wpAny_bind (aaN hT hvi ?_)
 refine abn rfl ?_
 refine wpAny_bind (afa (aaB (a:=n) rfl ?_))
 dsimp only[cq,bZ]
 rw[show Bytes.fitsIndex n=true by simp only[Bytes.fitsIndex,abD,decide_eq_true_eq];lia]
 refine abn rfl ?_
 rw[if_neg (by lia),if_neg (by lia)]
 rw[if_neg (by unfold Bytes.tooLong;rw[iN];simp;lia)]
 refine wpAny_bind (acK (wpAny_bind (wpAny_mkBytes ?_ (by rw[Array.size_replicate,iN];lia))))
 refine aeJ (by decide) ?_
 exact wpAny_bind (aai (aai ⟨_,_,rfl,h _ _⟩))
theorem Cc{b:Array UInt8}{u:Tok}{Q:Value->Sh}(h:Q (.bytes b u) s):wpAny (model prog w) A (aal (.type "bytes") [.bytes b u]) Q E s:=by
 refine qz ?_
 have hT:=acv s b u
 unfold aaD.«bytes.__new__»
 refine wpAny_bind (aaB (a:=true) rfl ?_)
 refine abn rfl ?_
 refine wpAny_bind (aaB F.bm_sub ?_)
 refine abn rfl ?_
 refine wpAny_bind (aaB (ajA _) ?_)
 refine wpAny_bind (aaB (a:=()) rfl ?_)
 refine wpAny_bind (aaB (a:=()) rfl ?_)
 refine abn rfl ?_
 refine wpAny_bind (aaN hT B3 ?_)
 dsimp only
 refine wpAny_bind (acK (wpAny_bind (wpAny_typeOf hT ?_)))
 refine aeJ (by decide) ?_
 refine aeJ (by decide) ?_
 exact wpAny_bind (aai (aai ⟨_,_,rfl,h⟩))
theorem qA{a:Addr}{b:By}{Q:Bool->Sh}(hb:cH s.heap a b)(h:Q false s):wpAny (model prog w) A (Bytes.ownRelease (.ref a)) Q E s:=by
 unfold Bytes.ownRelease Bytes.slotIsOwn
 refine wpAny_bind (wpAny_bind (aaN hb.type B8 ?_))
 dsimp only[cq,bZ]
 rw[if_neg (by decide+kernel)]
 rw[show(("bytearray.__release_buffer__":String).dropRight (("__release_buffer__":String).length+1))="bytearray" by decide+kernel]
 exact acJ hb.type qy (aai h)
theorem Cd{b:Array UInt8}{u:Tok}{Q:Bool->Sh}(h:Q false s):wpAny (model prog w) A (Bytes.ownRelease (.bytes b u)) Q E s:=by
 unfold Bytes.ownRelease Bytes.slotIsOwn
 refine wpAny_bind (wpAny_bind (aaN (acv s b u) B9 ?_))
 exact aai (aai h)
theorem lQ{a:Addr}{b:By}{Q:Array UInt8->Sh}(hb:cH s.heap a b)(h:Q b.toArray s):wpAny (model prog w) A (Bytes.payload (.ref a)) Q E s:=by
 unfold Bytes.payload Bytes.payload?
 exact wpAny_bind (wpAny_bind (aeq hb (aai (aai h))))
theorem Ce{id:String}{full:Bool}{a:Addr}{b:By}{Q:Option (Array UInt8)->Sh}(hb:cH s.heap a b)(h:Q (some b.toArray) s):wpAny (model prog w) A (Bytes.buffer? id (.ref a) full) Q E s:=by
 unfold Bytes.buffer?
 refine wpAny_bind (aaN hb.type qx ?_)
 dsimp only
 unfold Bytes.slotIsOwn
 refine wpAny_bind (wpAny_bind (aaN hb.type qx ?_))
 dsimp only[cq,bZ]
 rw[if_neg (by decide+kernel)]
 rw[show(("bytearray.__buffer__":String).dropRight (("__buffer__":String).length+1))="bytearray" by decide+kernel]
 refine acJ hb.type qy ?_
 refine abn rfl ?_
 refine wpAny_bind (aaN hb.type qx ?_)
 try dsimp only
 refine wpAny_bind (qA hb ?_)
 refine abn rfl ?_
 exact wpAny_bind (lQ hb (aai h))
theorem vD{id:String}{full:Bool}{b:Array UInt8}{u:Tok}{Q:Option (Array UInt8)->Sh}(h:Q (some b) s):wpAny (model prog w) A (Bytes.buffer? id (.bytes b u) full) Q E s:=by
 have hT:=acv s b u
 unfold Bytes.buffer?
 refine wpAny_bind (aaN hT jB ?_)
 dsimp only
 unfold Bytes.slotIsOwn
 refine wpAny_bind (wpAny_bind (aaN hT jB ?_))
 dsimp only[cq,bZ]
 rw[if_neg (by decide+kernel)]
 rw[show(("bytes.__buffer__":String).dropRight (("__buffer__":String).length+1))="bytes" by decide+kernel]
 refine acJ hT vC ?_
 refine abn rfl ?_
 refine wpAny_bind (aaN hT jB ?_)
 try dsimp only
 refine wpAny_bind (Cd ?_)
 refine abn rfl ?_
 exact wpAny_bind (aai (aai h))
theorem Cf{a:Addr}{b:By}{Q:Value->Sh}(hb:cH s.heap a b)(hz:b.length<=1048576)(h:∀ t k,Q (.bytes b.toArray t) {s with toks:=k}):wpAny (model prog w) A (aal (.type "bytes") [.ref a]) Q E s:=by
 refine qz ?_
 unfold aaD.«bytes.__new__»
 refine wpAny_bind (aaB (a:=true) rfl ?_)
 refine abn rfl ?_
 refine wpAny_bind (aaB F.bm_sub ?_)
 refine abn rfl ?_
 refine wpAny_bind (aaB (ajA _) ?_)
 refine wpAny_bind (aaB (a:=()) rfl ?_)
 refine wpAny_bind (aaB (a:=()) rfl ?_)
 refine abn rfl ?_
 refine wpAny_bind (aaN hb.type B4 ?_)
 refine wpAny_bind (wpAny_bind ?_)
 show wpAny _ _ (load a>>=_) _ _ _
 refine wpAny_bind (aeq hb ?_)
 refine aai (aai ?_)
 refine abn rfl ?_
 refine wpAny_bind (aaN hb.type B6 ?_)
 refine aeJ rfl ?_
 first
  |show wpAny _ _ (afR "bytes.__new__" (.ref a) true>>=_) _ _ _
  | (refine wpAny_bind ?_;show wpAny _ _ (afR "bytes.__new__" (.ref a) true>>=_) _ _ _)
 refine wpAny_bind (Ce hb ?_)
 dsimp only[cq,bZ]
 refine wpAny_bind (acK (wpAny_bind (wpAny_mkBytes ?_ (by rw[aaE,iN];lia))))
 refine aeJ (by decide) ?_
 exact wpAny_bind (aai (aai ⟨_,_,rfl,h _ _⟩))
end
end
section
open Builtin
theorem vE:mroOf (.type "bytearray")=pure [.type "bytearray",.type "object"]:=by rw[mroOf_type];kernel_rfl
theorem Cg:ack (.type "bytearray") "__new__"=pure (some (.builtin "bytearray.__new__")):=by rw[aaQ,aaA];kernel_rfl
theorem Ci:Slot "bytearray" "__init__" "bytearray.__init__":=
 .of (owner:="bytearray") (n:="__init__") (by rw[aaQ,aaA];kernel_rfl) (by decide+kernel) (by decide+kernel) (by decide+kernel)
  (by first |exact .inl (by decide+kernel) |exact .inr (by decide+kernel)) (by rw[abM];kernel_rfl)
theorem vF:ajH "bytearray" "bytearray.__new__" "bytearray.__init__":=
 ⟨by decide+kernel,by decide+kernel,⟨_,_,vE⟩,madeBy_type vE Cg (by decide+kernel),by decide+kernel,by rw[abM];kernel_rfl,Ci⟩
theorem Cj:ahY "bytearray" ⟨[],[]⟩=pure ():=by kernel_rfl
theorem Ck(a:Value):ahY "bytearray" ⟨[a],[]⟩=pure ():=by kernel_rfl
theorem Cn:abS "bytearray.__new__" ⟨[.type "bytearray"],[]⟩=pure ():=by kernel_rfl
theorem Co(a:Value):abS "bytearray.__new__" ⟨[.type "bytearray",a],[]⟩=pure ():=by kernel_rfl
theorem vG:plainId "bytearray.__new__"=true:=by decide+kernel
theorem Cp:adU table "bytearray.__new__"=some aaD.«list.__new__»:=entryFor_alias (id':="list.__new__") (by rw[ajM];kernel_rfl) (by decide+kernel) (by decide+kernel) (by rw[ajM];kernel_rfl)
theorem vH:adU table "bytearray.__init__"=some aaD.«bytearray.__init__»:=aef (by kernel_rfl)
set_option maxHeartbeats 4000000 in
theorem Cr:("bytearray.__new__".splitOn ".__new__").headD ""="bytearray":=by simp+decide [aix,ahy]
section
variable {prog:acI} {w:World} {A:aaY} {E:Value->Sh} {s:aaC}
theorem vI{rest:Vs}{Q₁:Value->Sh}(hc:abS "bytearray.__new__" ⟨.type "bytearray"::rest,[]⟩=pure ())
  (h:Q₁ (.ref s.heap.objs.size) {s with heap:=s.heap.push {cls:=.type "bytearray",data:=.bytearray #[]}}):
  ajc (model prog w) A (.call (.builtin "bytearray.__new__") ⟨.type "bytearray"::rest,[]⟩) (wants Q₁ E) s:=by
 refine codeAny_of_tree ?_
 show wpAny _ A.in1 (do abS "bytearray.__new__" ⟨.type "bytearray"::rest,[]⟩;again (.builtin "bytearray.__new__" ⟨.type "bytearray"::rest,[]⟩)) _ _ s
 refine wpAny_bind (aaB hc (aai ⟨aeX vG _,codeAny_builtin_stack Cp rfl λp st=>?_⟩))
 rw[adb vG _]
 have hsub:=qy
 have hown:=Cr
 obtain⟨hp,g,d,tk,os⟩:=s
 simp only[hown]
 wp_walk
 exact h
theorem Cs(a:Value):aeA "bytearray.__init__" ⟨[a],[]⟩:=by unfold aeA;kernel_rfl
theorem Cu(a b:Value):aeA "bytearray.__init__" ⟨[a,b],[]⟩:=by unfold aeA;kernel_rfl
theorem Cw:Bytes.bindOptional "bytearray.__init__" "bytearray" ["source","encoding","errors"] [] []=pure [none,none,none]:=by kernel_rfl
theorem Cy(v:Value):Bytes.bindOptional "bytearray.__init__" "bytearray" ["source","encoding","errors"] [v] []=pure [some v,none,none]:=by kernel_rfl
theorem kC{a:Addr}{b:By}{f:Array UInt8->Array UInt8}{c:By}{Q:Unit->Sh}(hb:cH s.heap a b)(hf:f b.toArray=c.toArray)(hz:c.length<=adV)
  (h:∀ h',acD a s.heap h'->cH h' a c->Q () {s with heap:=h'}):wpAny (model prog w) A (Bytes.write (.ref a) f) Q E s:=by
 unfold Bytes.write updateBytearray
 refine wpAny_bind (aeq hb ?_)
 show wpAny _ _ (update a (agh f)>>=λ_=>lookBehind a) _ _ _
 have e:(s.heap.update a (agh f)).get? a=some {cls:=.type "bytearray",data:=.bytearray c.toArray 0}:=by
  rw[<-hf]
  exact abO (agh f) hb rfl
 refine wpAny_bind (wpAny_update hb (agI e ?_ (h _ (acH ..) e)))
 show(if c.toArray.size>adV then some "bytearray:memory" else none)=none
 rw[if_neg]
 rw[aaE];lia
theorem Cz{a:Addr}{b:By}{Q:Nat->Sh}(hb:cH s.heap a b)(h:Q 0 s):wpAny (model prog w) A (Bytes.exportsOf (.ref a)) Q E s:=by
 unfold Bytes.exportsOf
 exact wpAny_bind (aeq hb (aai h))
theorem qB{a:Addr}{b:By}{Q:Bool->Sh}(hg:A.guards=some [])(hb:cH s.heap a b)(h:Q false s):
  ao (model prog w) A (Bytes.exported (.ref a)<||> (do return (<-Bytes.exportsOf (.ref a))>0)) Q E s:=by
 show ao _ _ (Bytes.exported (.ref a)>>=λx=>_) _ _ _
 refine az (Aw hg ?_)
 refine aC (Cz hb ?_)
 exact aK h
theorem CA{a:Addr}{R:Fin->Sh}(hg:A.guards=some [])(hb:cH s.heap a [])(h:∀ h',acD a s.heap h'->cH h' a []->R (.done (.ret .none)) {s with heap:=h'}):
  ao (model prog w) A (aaD.«bytearray.__init__» ⟨[.ref a],[]⟩) R E s:=by
 unfold aaD.«bytearray.__init__»
 refine aC (qA hb ?_)
 refine dc rfl ?_
 refine aC (aaB Cw ?_)
 dsimp only
 refine aC (aaB (a:=()) rfl ?_)
 refine aC (aaB (a:=()) rfl ?_)
 refine az (qB hg hb ?_)
 refine dc rfl ?_
 refine aC (kC (c:=[]) hb rfl (abh _) λh' hs hb'=>?_)
 refine aC (aaB (a:=()) rfl ?_)
 exact aK (h h' hs hb')
theorem CB{a:Addr}{b:By}{u:Tok}{R:Fin->Sh}(hg:A.guards=some [])(hb:cH s.heap a [])(hz:b.length<=1048576)(h:∀ h',acD a s.heap h'->cH h' a b->R (.done (.ret .none)) {s with heap:=h'}):
  ao (model prog w) A (aaD.«bytearray.__init__» ⟨[.ref a,.bytes b.toArray u],[]⟩) R E s:=by
 unfold aaD.«bytearray.__init__»
 refine aC (qA hb ?_)
 refine dc rfl ?_
 refine aC (aaB (Cy _) ?_)
 dsimp only
 refine aC (aaB (a:=()) rfl ?_)
 refine aC (aaB (a:=()) rfl ?_)
 refine az (qB hg hb ?_)
 refine dc rfl ?_
 refine aC (kC (c:=[]) hb rfl (abh _) λh' hs hb'=>?_)
 refine aC (aaB (a:=none) rfl ?_)
 refine dc rfl ?_
 refine aC (aaB (a:=()) rfl ?_)
 refine aC (aaN (acv _ _ _) vB ?_)
 refine dc rfl ?_
 refine aC (vD ?_)
 dsimp only[cq,bZ]
 refine aC (acK ?_)
 refine aC (kC (c:=b) hb' rfl (by rw[iN];lia) λh'' hs' hb''=>?_)
 exact aK (h h'' (hs.trans hs') hb'')
theorem CC{Q:Value->Sh}(hg:A.guards=some [])(h:∀ h' a,(∀ b o,s.heap.get? b=some o->h'.get? b=some o)->s.heap.get? a=none->cH h' a []->Q (.ref a) {s with heap:=h'}):
  ao (model prog w) A (aal (.type "bytearray") []) Q E s:=by
 have hb:cH (s.heap.push {cls:=.type "bytearray",data:=.bytearray #[]}) s.heap.objs.size []:=aaX _ rfl
 refine tH (Q₁:=λobj s₁=>obj=.ref s.heap.objs.size∧s₁={s with heap:=s.heap.push {cls:=.type "bytearray",data:=.bytearray #[]}}) vF Cj vH (by decide+kernel)
  (pd (vI Cn ⟨rfl,rfl⟩)) λobj s₁ ⟨e1,e2⟩=>?_
 subst e1 e2
 refine⟨hb.type (s:={s with heap:=s.heap.push {cls:=.type "bytearray",data:=.bytearray #[]}}),Cs _,CA hg hb λh' hs hb'=>⟨rfl,h h' _ (λb o e=>?_) (dP _) hb'⟩⟩
 exact(hs.2 b (abY (abN e))).trans (aaF _ e)
theorem vJ{b:By}{u:Tok}{Q:Value->Sh}(hg:A.guards=some [])(hz:b.length<=1048576)(h:∀ h' a,(∀ b o,s.heap.get? b=some o->h'.get? b=some o)->s.heap.get? a=none->cH h' a b->Q (.ref a) {s with heap:=h'}):
  ao (model prog w) A (aal (.type "bytearray") [.bytes b.toArray u]) Q E s:=by
 have hb:cH (s.heap.push {cls:=.type "bytearray",data:=.bytearray #[]}) s.heap.objs.size []:=aaX _ rfl
 refine tH (Q₁:=λobj s₁=>obj=.ref s.heap.objs.size∧s₁={s with heap:=s.heap.push {cls:=.type "bytearray",data:=.bytearray #[]}}) vF (Ck _) vH (by decide+kernel)
  (pd (vI (Co _) ⟨rfl,rfl⟩)) λobj s₁ ⟨e1,e2⟩=>?_
 subst e1 e2
 refine⟨hb.type (s:={s with heap:=s.heap.push {cls:=.type "bytearray",data:=.bytearray #[]}}),Cu _ _,CB hg hb hz λh' hs hb'=>⟨rfl,h h' _ (λb o e=>?_) (dP _) hb'⟩⟩
 exact(hs.2 b (abY (abN e))).trans (aaF _ e)
theorem CD:adU table "bytearray.extend"=some aaD.«bytearray.extend»:=aef (by kernel_rfl)
theorem qC:Slot "bytearray" "extend" "bytearray.extend":=
 .of (owner:="bytearray") (n:="extend") (by rw[aaQ,aaA];kernel_rfl) (by decide+kernel) (by decide+kernel) (by decide+kernel)
  (by first |exact .inl (by decide+kernel) |exact .inr (by decide+kernel)) (by rw[abM];kernel_rfl)
theorem CE(a b:Value):aeA "bytearray.extend" ⟨[a,b],[]⟩:=by unfold aeA;kernel_rfl
theorem CF(a b:Value):PySem.selfAndOne "bytearray.extend" ⟨[a,b],[]⟩=pure (a,b):=by kernel_rfl
theorem CG{a:Addr}{b:By}{Q:Unit->Sh}(hg:A.guards=some [])(hb:cH s.heap a b)(h:Q () s):ao (model prog w) A (Bytes.checkResize (.ref a)) Q E s:=by
 unfold Bytes.checkResize
 refine az (qB hg hb ?_)
 exact dc rfl (aK h)
theorem CH{id:String}{b:Array UInt8}{u:Tok}{Q:Option (Array UInt8×Option Value)->Sh}(h:Q (some (b,none)) s):wpAny (model prog w) A (Bytes.takeBufferQuiet? id (.bytes b u) 0) Q E s:=by
 have hT:=acv s b u
 unfold Bytes.takeBufferQuiet? Bytes.takeBuffer?
 refine wpAny_bind (afa ?_)
 refine wpAny_bind (aaN hT jB ?_)
 dsimp only
 unfold Bytes.slotIsOwn
 refine wpAny_bind (wpAny_bind (aaN hT jB ?_))
 dsimp only[cq,bZ]
 rw[if_neg (by decide+kernel)]
 rw[show(("bytes.__buffer__":String).dropRight (("__buffer__":String).length+1))="bytes" by decide+kernel]
 refine acJ hT vC ?_
 refine abn rfl ?_
 refine wpAny_bind (aaN hT jB ?_)
 try dsimp only
 refine wpAny_bind (vD ?_)
 exact aai (aai h)
theorem CI{a:Addr}{b c:By}{u:Tok}{Q:Value->Sh}(hg:A.guards=some [])(hb:cH s.heap a b)(hz:b.length+c.length<=1048576)(h:∀ h',acD a s.heap h'->cH h' a (b++c)->Q .none {s with heap:=h'}):
  ao (model prog w) A (aal (.builtin "bytearray.extend") [.ref a,.bytes c.toArray u]) Q E s:=by
 refine fP (pg qC.plain CD (by decide+kernel) (bt (qC.check _ _ _ _ _ _ _ _ hb.type (CE _ _) ?_)))
 unfold aaD.«bytearray.extend»
 refine aC (aaB (CF _ _) ?_)
 dsimp only
 refine aC (aaN (acv _ _ _) jB ?_)
 refine j7 rfl ?_
 refine aC (acK ?_)
 refine aC (lQ hb ?_)
 refine aC (CH ?_)
 dsimp only
 refine j7 rfl ?_
 rcases Bool.eq_false_or_eq_true (!c.toArray.isEmpty)with e |e
 ·refine j7 e ?_
  refine az (CG hg hb ?_)
  exact aC (kC (c:=b++c) hb (by simp) (by rw[iN];simp;lia) λh' hs hb'=>aK (h h' hs hb'))
 ·refine dc e ?_
  exact aC (kC (c:=b++c) hb (by simp) (by rw[iN];simp;lia) λh' hs hb'=>aK (h h' hs hb'))
theorem CJ:adU table "bytearray.__setitem__"=some aaD.«bytearray.__setitem__»:=aef (by kernel_rfl)
theorem CL:Slot "bytearray" "__setitem__" "bytearray.__setitem__":=
 .of (owner:="bytearray") (n:="__setitem__") (by rw[aaQ,aaA];kernel_rfl) (by decide+kernel) (by decide+kernel) (by decide+kernel)
  (by first |exact .inl (by decide+kernel) |exact .inr (by decide+kernel)) (by rw[abM];kernel_rfl)
theorem CM(a b c:Value):aeA "bytearray.__setitem__" ⟨[a,b,c],[]⟩:=by unfold aeA;kernel_rfl
theorem CN:ack (.type "bytes") "__int__"=pure none:=by rw[aaQ,aaA];kernel_rfl
theorem CO:ack (.type "bytes") "__float__"=pure none:=by rw[aaQ,aaA];kernel_rfl
theorem CP:aha (.type "bytes") (.type "complex")=pure false:=by rw[abM];kernel_rfl
theorem CQ:aha (.type "bytes") (.type "bytearray")=pure false:=by rw[abM];kernel_rfl
theorem vK{sl:Addr}{Q:Value×Value×Value->Sh}(hs:s.heap.IsSliceOf sl .none .none .none)(h:Q (.none,.none,.none) s):wpAny (model prog w) A (Bytes.sliceParts (.ref sl)) Q E s:=by
 obtain⟨o,ho,hc,hd⟩:=hs
 unfold Bytes.sliceParts
 refine wpAny_bind (acz (x:=.none) ho hd rfl ?_)
 refine wpAny_bind (aaB (a:=abo) rfl ?_)
 refine wpAny_ite (KBy.ite_no (show ¬ ((abo==adF 0)=true) from abe) ?_)
 refine wpAny_bind (acz (x:=.none) ho hd rfl ?_)
 refine wpAny_bind (aaB (a:=abo) rfl ?_)
 refine wpAny_bind (acz (x:=.none) ho hd rfl ?_)
 refine wpAny_bind (aaB (a:=abo) rfl ?_)
 exact aai h
theorem CS{a sl:Addr}{b c:By}{u:Tok}{Q:Unit->Sh}(hg:A.guards=some [])(hb:cH s.heap a b)(hs:s.heap.IsSliceOf sl .none .none .none)(hc:c.length=b.length)(hz:b.length<=1048576)
  (h:∀ h',(∀ d o,d≠a->s.heap.get? d=some o->h'.get? d=some o)->cH h' a c->Q () {s with heap:=h'}):
  ao (model prog w) A (aid (.ref a) (.ref sl) (.bytes c.toArray u)) Q E s:=by
 have hTs:s.TypeIs (.ref sl) "slice":=by obtain⟨o,ho,hc,hd⟩:=hs;exact⟨o,ho,hc⟩
 have hTb:=acv s c.toArray u
 unfold aid
 refine bN ?_
 refine aC (ajL hb.type (by decide) ?_)
 refine az (Ax hb.type CL CJ (by decide+kernel) (CM _ _ _) ?_)
 unfold aaD.«bytearray.__setitem__»
 refine dc rfl ?_
 dsimp only
 refine az ?_
 unfold Bytes.subscript?
 refine aC (aaN hTs slice_no_index (aK ?_))
 dsimp only[cq,bZ]
 refine aC (wpAny_typeOf hTs ?_)
 refine dc rfl ?_
 refine aC (vK hs ?_)
 refine dc rfl ?_
 refine aC (acJ hTb CQ ?_)
 refine j7 rfl ?_
 refine aC ?_
 have i1:=vB
 have i2:=CN
 have i3:=CO
 have i4:=CP
 repeat wp_step
 refine aC (aaB (a:=none) rfl ?_)
 refine dc rfl ?_
 refine aC (acK ?_)
 refine az (vJ hg (by lia) λh1 x hk hn hx=>?_)
 have hs1:h1.IsSliceOf sl .none .none .none:=by
  obtain⟨o,h2,h3,h4⟩:=hs
  exact⟨o,hk _ _ h2,h3,h4⟩
 have hb1:cH h1 a b:=hk _ _ hb
 have nxa:a≠x:=λe=>by subst e;rw[show s.heap.get? a=_ from hb]at hn;cases hn
 refine az (bN (bt (vK hs1 ?_)))
 refine aC (lQ hx ?_)
 refine aC (lQ hb1 ?_)
 refine aC (aaB (sliceIndices_raw none none none b.toArray.size (λe=>nomatch e)) ?_)
 dsimp only
 have eb:sliceBounds none none none b.toArray.size=(0,((b.length:Nat):Int),1):=by simp[sliceBounds]
 rw[eb]
 refine j7 rfl ?_
 refine aC (acK ?_)
 refine dc (by simp[hc]) ?_
 refine aC (kC (c:=c) hb1 ?_ (by rw[iN];lia) λh' hs' hb'=>aK ⟨_,rfl,aK (h h' (λd o hd e=>(hs'.2 d hd).trans (hk _ _ e)) hb')⟩)
 have:max (0:Int) ((b.length:Nat):Int)=((b.length:Nat):Int):=by lia
 rw[this]
 simp
end
end
section
variable {m:Am} {g:Gs} {st:St} {α:Type}
theorem vL{t:Sem Value}{v:V}(h:∀ (s:aaC) (Q:Value->Sh) (E:Value->Sh),Rel m g st s.heap->
   (∀ r h' tk,(∀ b o,s.heap.get? b=some o->h'.get? b=some o)->m.VR g v r->Q r {s with heap:=h',toks:=tk})->wpAny (model m.c.prog m.c.w) m.A t Q E s):Wp m g st t (.ok v st) m.VR:=
 Wp.intro λs Q E R k=>h s Q E R λr h' tk hk q=>k g h' tk r (.refl g) (R.keeps hk) q
theorem kD{t:Sem Value}{o:O}(n:o.dX=false)
  (h:∀ (s:aaC) (Q:Value->Sh) (E:Value->Sh),Rel m g st s.heap->
   (∀ a h' ob tk,(∀ b o,s.heap.get? b=some o->h'.get? b=some o)->s.heap.get? a=none->h'.get? a=some ob->b5 m.c g (0,0) o ob->Q (.ref a) {s with heap:=h',toks:=tk})->
   ao (model m.c.prog m.c.w) m.A t Q E s) (hp:∀ g p q ob,b5 m.c g p o ob->b5 m.c g q o ob):Np m g st t (.ok (.ref st.H.length) {st with H:=st.H++[o]}) m.VR:=by
 intro s Q E R k
 refine h s Q E R λa h' ob tk hk hn hob hP=>?_
 have R':=R.keeps hk
 have fr:=R.inv.free hn
 have R2:=R'.jx (o:=o) (ob:=ob) fr n hob (b5.mono (fc g _) (hp g _ _ _ hP))
 exact k _ h' tk _ (fc g _) R2 (.ref R'.last)
theorem Np.turned{β:Type}{t:Sem β}{b:β}{γ:Type}{c:γ}{a:Nat}{o o':O}{x y:Addr}(hp:g.ρ[a]? =some (x,y))(ho:st.H[a]? =some o)(n1:o.dX=false)(n2:o'.dX=false){rel:Gs->γ->β->Prop}(hrel:rel g c b)
  (h:∀ (s:aaC) (Q:β->Sh) (E:Value->Sh),Rel m g st s.heap->
   (∀ h' ob tk,(∀ d o,d≠x->s.heap.get? d=some o->h'.get? d=some o)->h'.get? x=some ob->b5 m.c g (x,y) o' ob->Q b {s with heap:=h',toks:=tk})->ao (model m.c.prog m.c.w) m.A t Q E s):
  Np m g st t (.ok c {st with H:=st.H.set a o'}) rel:=by
 intro s Q E R k
 exact h s Q E R λh' ob tk hs hob hP=>k g h' tk b (.refl g) ⟨R.inv.putK hp ho n1 n2 hs hob hP,R.loc⟩ hrel
theorem Inv.bG{c:Cx}{g:Gs}{H:Hp}{h:Heap}(I:Inv c g H h){a:Nat}{x y:Addr}{b:By}(hp:g.ρ[a]? =some (x,y))(ho:H[a]? =some (.bG b)):cH h x b:=by
 obtain⟨ob,h1,h2⟩:=I.obj hp ho
 exact h1.trans (congrArg some h2)
theorem qD{β:Type}{a:Nat}{o:O}{f:Unit->M β}:(Lite.put a o>>=f) st=f () {st with H:=st.H.set a o}:=rfl
theorem vM:Slot "bytearray" "__len__" "bytearray.__len__":=
 .of (owner:="bytearray") (n:="__len__") (by rw[aaQ,aaA];kernel_rfl) (by decide+kernel) (by decide+kernel) (by decide+kernel)
  (by first |exact .inl (by decide+kernel) |exact .inr (by decide+kernel)) (by rw[abM];kernel_rfl)
theorem CT:adU table "bytearray.__len__"=some aaD.«bytearray.__len__»:=aef (by kernel_rfl)
theorem CU(a:Value):aeA "bytearray.__len__" ⟨[a],[]⟩:=by unfold aeA;kernel_rfl
theorem CV(a:Value):slotArgs "__len__" 0 ⟨[a],[]⟩=pure (a,[]):=by kernel_rfl
theorem CW{prog:acI}{w:World}{A:aaY}{E:Value->Sh}{s:aaC}{a:Addr}{b:By}{Q:Value->Sh}(hb:cH s.heap a b)(hz:b.length<=1048576)(h:∀ t k,Q (.int b.length t) {s with toks:=k}):
  wpAny (model prog w) A (aal (.builtin "len") [.ref a]) Q E s:=by
 refine call_function_entry kind_len plain_len entry_len (args_len1 _) ?_
 unfold aaD.«len»
 refine wpAny_bind (m:=oneArg "len" _) (aai ?_)
 refine wpAny_bind (m:=adY (.ref a) (ada "__len__")) (adG (name:=ada "__len__") hb.type vM
  (afj vM hb.type CT ?_ (CU _)))
 unfold aaD.«bytearray.__len__»
 refine wpAny_bind (aaB (CV _) ?_)
 refine wpAny_bind (lQ hb ?_)
 refine wpAny_bind (ajh (aai ⟨_,rfl,?_⟩))
 refine wpAny_bind (abT (aai ?_))
 refine wpAny_bind (wpAny_letGo ?_)
 show wpAny _ _ (if ((b.toArray.size:Nat):Int)<0 then _ else _) _ _ _
 rw[if_neg (by lia)]
 show wpAny _ _ (if ((b.toArray.size:Nat):Int) ≥ 2 ^ 63 then _ else _) _ _ _
 rw[if_neg (by rw[aaE];lia)]
 exact wpAny_bind (ajh (aai ⟨_,rfl,by rw[aaE];exact h _ _⟩))
theorem CX(vs:Vs)(r:Value):vs.toArray.push r=(vs++[r]).toArray:=by simp
theorem CY{v:V}{u:UInt8}(e:pJ v=some u):∃ i:Int,v=.int i∧(0<=i∧i<256)∧u=i.toNat.toUInt8:=by
 obtain⟨i,h1,e⟩:=aaj.mp e
 by_cases h:0<=i∧i<256
 ·rw[if_pos h]at e
  exact⟨i,g9 h1,h,(aae.inj e).symm⟩
 ·rw[if_neg h]at e;contradiction
theorem CZ{c:Cx}{g:Gs}{xs:List V}{vs:Vs}(h:aA c g xs vs):∀ {b:By},bytesOf xs=some b->∃ ns,aO (agX vs ns) (∀ n∈ns,0<=n∧n<256) (ns.map (λn:Int=>n.toNat.toUInt8)=b):=by
 induction h using aQ.ind with
 |nil=>exactλe=>⟨[],.nil,λn hn=>(nomatch hn),aae.inj e⟩
 | @cons x v xs vs h1 _ ih=>?_
 intro b e
 unfold bytesOf at e
 rw[afl]at e
 obtain⟨u,e1,e⟩:=aaj.mp e
 obtain⟨r,e2,e⟩:=aaj.mp e
 obtain⟨ns,i1,i2,i3⟩:=ih e2
 obtain⟨i,rfl,hr,rfl⟩:=CY e1
 obtain⟨t,rfl⟩:=h1
 exact⟨i::ns,.cons _ _ i1,aas.mpr ⟨hr,i2⟩,(congrArg (_::·) i3).trans (aae.inj e)⟩
theorem Np.dz{args:List V}{rs:Vs}{t:Vs->Sem Value}{f:V->M V}(va:m.aA g args rs)(h:∀ a r,m.VR g a r->Np m g st (t [r]) (f a st) m.VR):Np m g st (t rs) ((Lite.dz args>>=f) st) m.VR:=by
 cases args with
 |nil=>exact Np.no
 |cons a args=>
  obtain⟨r,rs,rfl,v,va⟩:=va
  cases args with
  |nil=>exact(show rs=[] from va)▸h _ _ v
  |cons _ _=>exact Np.no
theorem Np.eP{args:List V}{rs:Vs}{t:Vs->Sem Value}{f:V×V->M V}(va:m.aA g args rs)(h:∀ a b r r',m.VR g a r->m.VR g b r'->Np m g st (t [r,r']) (f (a,b) st) m.VR):Np m g st (t rs) ((Lite.eP args>>=f) st) m.VR:=by
 cases args with
 |nil=>exact Np.no
 |cons a args=>
  obtain⟨r,rs,rfl,v,va⟩:=va
  cases args with
  |nil=>exact Np.no
  |cons b args=>
   obtain⟨r',rs,rfl,w,va⟩:=va
   cases args with
   |nil=>exact(show rs=[] from va)▸h _ _ _ _ v w
   |cons _ _=>exact Np.no
theorem Np.ki{args:List V}{rs:Vs}{t:Vs->Sem Value}{f:V×V×V->M V}(va:m.aA g args rs)(h:∀ a b c r r' r'',m.VR g a r->m.VR g b r'->m.VR g c r''->Np m g st (t [r,r',r'']) (f (a,b,c) st) m.VR):Np m g st (t rs) ((Lite.ki args>>=f) st) m.VR:=by
 cases args with
 |nil=>exact Np.no
 |cons a args=>
  obtain⟨r,rs,rfl,v,va⟩:=va
  cases args with
  |nil=>exact Np.no
  |cons b args=>
   obtain⟨r',rs,rfl,w,va⟩:=va
   cases args with
   |nil=>exact Np.no
   |cons c args=>
    obtain⟨r'',rs,rfl,u,va⟩:=va
    cases args with
    |nil=>exact(show rs=[] from va)▸h _ _ _ _ _ _ v w u
    |cons _ _=>exact Np.no
theorem dQ{c:Prop}[Decidable c]{a b:M V}{t:Sem Value}(ha:c->Np m g st t (a st) m.VR)(hb:¬ c->Np m g st t (b st) m.VR):Np m g st t ((if c then a else b) st) m.VR:=by
 by_cases h:c
 ·rw[if_pos h];exact ha h
 ·rw[if_neg h];exact hb h
section
variable {args:List V} {rs:Vs}
theorem len_list{l:Addr}{vs:Vs}{A:aaY}{prog:acI}{w:World}{E:Value->Sh}{s:aaC}{Q:Value->Sh}{n:Nat}(hl:s.heap.IsList l vs.toArray)(hn:n=vs.length)(hz:decide (n<=lim)=true)(h:∀ t k,Q (.int n t) {s with toks:=k}):
  wpAny (model prog w) A (aal (.builtin "len") [.ref l]) Q E s:=by
 subst hn
 have e:vs.toArray.size=vs.length:=aaE
 refine call_len_list hl (by rw[e];exact aem (abg.mpr (of_decide_eq_true hz)) (by decide)) ?_
 rw[e];exact h _ _
theorem C0{a:Nat}{x y:Addr}(hp:g.ρ[a]? =some (x,y)):Np m g st (aal (.builtin "len") [.ref x]) ((Lite.obj a>>=lE) st) m.VR:=by
 refine Np.obj λob ho=>?_
 cases ob with
 |list xs=>
  refine Np.aL λhg=>(Wp.val λs Q E R k=>?_).np
  obtain⟨vs,i1,i2⟩:=R.inv.list hp ho
  exact len_list i1 i2.length hg λt kk=>k _ _ (.int _ _)
 |bG b=>
  refine Np.aL λhg=>(Wp.val λs Q E R k=>?_).np
  exact CW (R.inv.bG hp ho) (of_decide_eq_true hg) λt kk=>k _ _ (.int _ _)
 |j9 n=>
  refine(Wp.val λs Q E R k=>?_).np
  obtain⟨o,h1,es,ep,t,h2,h3,h4,h5,h6⟩:=R.inv.obj hp ho
  exact call_len_set h1 h2 h3 h4 (aeW (acG.mpr h5) (by decide)) (h6▸k _ _ (.int _ _))
 |_=>exact Np.no
theorem C2(va:m.aA g args rs):Np m g st (aal (.builtin "len") rs) (tR args st) m.VR:=by
 refine Np.dz (t:=λrs=>aal (.builtin "len") rs) va λa r v=>?_
 cases a with
 |bytes b=>
  obtain⟨t,rfl⟩:=v
  refine Np.aL λhg=>(Wp.val λs Q E R k=>?_).np
  have e:b.toArray.size=b.length:=aaE
  refine len_bytes (by rw[e];exact aah (of_decide_eq_true hg) (by decide)) ?_
  rw[e];exact k _ _ (.int _ _)
 | «ints» l=>
  refine Np.aL λhg=>(Wp.val λs Q E R k=>?_).np
  obtain⟨a,vs,rfl,⟨o,h1,h2,n,h3⟩,hi⟩:=v
  exact len_list ⟨o,R.inv.base _ _ h1,h2,n,h3⟩ hi.length.symm hg λt kk=>k _ _ (.int _ _)
 |ref a=>
  obtain⟨x,y,rfl,hp⟩:=v
  exact C0 hp
 |_=>exact Np.no
theorem C3(va:m.aA g args rs):Np m g st (aal (.builtin "abs") rs) (tT args st) m.VR:=by
 refine Np.dz (t:=λrs=>aal (.builtin "abs") rs) va λa r v=>Np.aX λi hi=>?_
 subst hi
 obtain⟨t,rfl⟩:=v.int_inv
 refine(Wp.val λs Q E R k=>call_abs_int λu tk=>k _ _ ?_).np
 have:(if i<0 then -i else i)=(i.natAbs:Int):=by
  split
  ·rename_i h;exact(Int.ofNat_natAbs_of_nonpos (acg h)).symm
  ·rename_i h;exact(Int.natAbs_of_nonneg (abI.mp h)).symm
 rw[this];exact .int _ _
theorem C4{a b:Int}{t t':Tok}:(if b<a then Value.int b t' else .int a t)=.int (min a b) (if b<a then t' else t):=by
 by_cases q:b<a
 ·simp only[if_pos q,if_pos q,aiK (acg q)]
 ·simp only[if_neg q,if_neg q,agv (abI.mp q)]
theorem C5(hh:m.A.handled=none)(va:m.aA g args rs):Np m g st (aal (.builtin "min") rs) (tU args st) m.VR:=by
 refine Np.eP (t:=λrs=>aal (.builtin "min") rs) va λa b r r' v v'=>Np.aX λi hi=>Np.aX λj hj=>?_
 dsimp only at hi hj
 subst hi hj
 obtain⟨t,rfl⟩:=v.int_inv
 obtain⟨t',rfl⟩:=v'.int_inv
 refine(vL λs Q E R k=>min_two_ints hh λh' tk hk=>?_).np
 rw[C4];exact k _ _ _ hk (.int _ _)
theorem C6(va:m.aA g args rs):Np m g st (aal (.builtin "isinstance") rs) (tV args st) m.VR:=by
 refine Np.eP (t:=λrs=>aal (.builtin "isinstance") rs) va λa b r r' v v'=>Np.aX λi hi=>?_
 dsimp only at hi
 subst hi
 obtain⟨t,rfl⟩:=v.int_inv
 refine Np.m6 λn hn=>Np.aL λhg=>?_
 dsimp only at hn
 subst hn
 have hg:=of_decide_eq_true hg
 subst hg
 rw[show r'=.type "int" from v']
 exact(Wp.val λs Q E R k=>ajB (k _ _ (.bool _))).np
theorem C7(va:m.aA g args rs):Np m g st (aal (.builtin "list.append") rs) (tW args st) m.VR:=by
 refine Np.eP (t:=λrs=>aal (.builtin "list.append") rs) va λa v r r' w w'=>Np.bx λi hi=>Np.bV λxs hxs=>Np.aL λhg=>?_
 dsimp only at hi
 subst hi
 obtain⟨x,y,rfl,hp⟩:=w
 rw[qD]
 refine Np.turned (o':=.list (xs++[v])) hp hxs rfl rfl .none λs Q E R k=>bt ?_
 obtain⟨vs,n,i1,i2⟩:=R.inv.jA hp hxs
 refine wpAny_list_append_plain (l:=x) (items:=vs.toArray) ⟨n,i1⟩ (λh' hP hs=>?_) (by rw[aaE,<-i2.length];exact aah (acR (of_decide_eq_true hg)) (by decide))
 obtain⟨n',e⟩:=hP
 rw[CX]at e
 exact k h' _ _ (λd o hd q=>(hs.2 d hd).trans q) e ⟨_,n',rfl,i2.append (.cons w' .nil)⟩
theorem vN{a:Option V}{b:Option Value}{d:V}{rd:Value}(z:cN m.c g a b)(hd:m.VR g d rd):m.VR g (a.getD d) (b.getD rd):=by
 cases a with
 |none=>exact(show b=ajm from z)▸hd
 |some a=>obtain⟨r,rfl,h⟩:=z;exact h
theorem C8(hb:∃ o,m.c.b₀.get? acw=some o)(va:m.aA g args rs):Np m g st (aal (.builtin "dict.get") rs) (tX args st) m.VR:=by
 refine Np.eP (t:=λrs=>aal (.builtin "dict.get") rs) va λa j r r' w w'=>Np.bx λi hi=>Np.aX λj' hj=>Np.dictAt λes hes=>(Wp.val λs Q E R k=>?_).np
 dsimp only at hi hj
 subst hi hj
 obtain⟨x,y,rfl,hp⟩:=w
 obtain⟨t,rfl⟩:=w'.int_inv
 obtain⟨kvs,i1,i2⟩:=R.inv.dict hp hes
 obtain⟨om,hb⟩:=hb
 have ne:=R.inv.nF hp hes hb
 refine aiF agF i1.mapOf.typeIs ajp (F.args_dict_get_2 _ _) (meets_dict_get _ x (intKind_is _ _ j' t) (by simpa using ne)) ⟨_,i1.mapOf,?_⟩
 refine k _ _ ?_
 have z:=vN (lO i2 j') VR.none
 cases e2:aib kvs j' with
 |none=>rw[e2]at z;exact z
 |some _=>rw[e2]at z;exact z
theorem C9(hb:∃ o,m.c.b₀.get? acw=some o)(va:m.aA g args rs):Np m g st (aal (.builtin "dict.get") rs) (tY args st) m.VR:=by
 refine Np.ki (t:=λrs=>aal (.builtin "dict.get") rs) va λa j d r r' r'' w w' w''=>Np.bx λi hi=>Np.aX λj' hj=>Np.dictAt λes hes=>(Wp.val λs Q E R k=>?_).np
 dsimp only at hi hj
 subst hi hj
 obtain⟨x,y,rfl,hp⟩:=w
 obtain⟨t,rfl⟩:=w'.int_inv
 obtain⟨kvs,i1,i2⟩:=R.inv.dict hp hes
 obtain⟨om,hb⟩:=hb
 have ne:=R.inv.nF hp hes hb
 refine aiF agF i1.mapOf.typeIs ajp (F.args_dict_get_3 _ _ _) (meets_dict_get_default _ x (intKind_is _ _ j' t) (by simpa using ne) r'') ⟨_,i1.mapOf,?_⟩
 refine k _ _ ?_
 have z:=vN (lO i2 j') w''
 cases e2:aib kvs j' with
 |none=>rw[e2]at z;exact z
 |some _=>rw[e2]at z;exact z
theorem C'(O:bE m)(va:m.aA g args rs):Np m g st (aal (.builtin "bytearray.extend") rs) (tZ args st) m.VR:=by
 refine Np.eP (t:=λrs=>aal (.builtin "bytearray.extend") rs) va λa x0 r r' w w'=>Np.bx λi hi=>Np.eZ λu hu=>Np.iJ λb hb'=>Np.aL λhg=>?_
 dsimp only at hi hu
 subst hi hu
 obtain⟨x,y,rfl,hp⟩:=w
 obtain⟨t,rfl⟩:=w'.qm
 have hg:=of_decide_eq_true hg
 rw[nD]at hg
 rw[qD]
 refine Np.turned (o':=.bG (b++u)) hp hb' rfl rfl .none λs Q E R k=>?_
 exact CI O.fR (R.inv.bG hp hb') hg λh' hs hb2=>k h' _ _ (λd o hd q=>(hs.2 d hd).trans q) hb2 rfl
end
theorem vO{P:a9}{id:String}(O:bE m)(hh0:id≠"len"->m.A.handled=none)(hb:∃ o,m.c.b₀.get? acw=some o){args:List V}{rs:Vs}(va:m.aA g args rs)
  (hrem:id="list.remove"->Np m g st (aal (.builtin id) rs) (pK P args st) m.VR):
  Np m g st (aal (.builtin id) rs) (bi P id args st) m.VR:=
 dQ (λe=>e▸C2 va) λh=>dQ (λe=>e▸C3 va) λ_=>dQ (λe=>e▸C5 (hh0 h) va) λ_=>
  dQ (λe=>e▸C6 va) λ_=>dQ (λe=>e▸C7 va) λ_=>dQ hrem λ_=>dQ (λe=>e▸dQ (λ_=>C8 hb va) λ_=>C9 hb va) λ_=>
  dQ (λe=>e▸C' O va) λ_=>Np.no
end
section
variable {m:Am} {g:Gs} {st:St} {α:Type}
theorem qE{a b c:Int}(h:eo a b c=true):lq (-(2 ^ 60)<a) (a<2 ^ 60) (-(2 ^ 60)<b) (b<2 ^ 60) (0<c) (c<2 ^ 20):=by
 obtain⟨h,h6⟩:=aab.mp h
 obtain⟨h,h5⟩:=aab.mp h
 obtain⟨h,h4⟩:=aab.mp h
 obtain⟨h,h3⟩:=aab.mp h
 obtain⟨h1,h2⟩:=aab.mp h
 exact⟨of_decide_eq_true h1,of_decide_eq_true h2,of_decide_eq_true h3,of_decide_eq_true h4,of_decide_eq_true h5,of_decide_eq_true h6⟩
section
variable {args:List V} {rs:Vs}
theorem Dc(va:m.aA g args rs):Np m g st (aal (.type "int") rs) (t5 args st) m.VR:=by
 refine Np.dz (t:=λrs=>aal (.type "int") rs) va λa r v=>Np.gh λb hb=>?_
 subst hb
 obtain rfl:=v.bool_inv
 exact(Wp.val λs Q E R k=>call_int_bool (k _ _ (.int _ _))).np
theorem qF{a b c:Int}{x:Sem Value}(h:∀ (s:aaC) (Q:Value->Sh) (E:Value->Sh),(∀ t u v tk,Q (.ref s.heap.objs.size) {s with heap:=s.heap.push {cls:=.type "range",data:=.fields #[.int a t,.int b u,.int c v]},toks:=tk})->wpAny (model m.c.prog m.c.w) m.A x Q E s):
  Np m g st x (alloc (.range a b c) st) m.VR:=by
 refine kD (o:=.range a b c) rfl (λs Q E R k=>bt ?_) λg p q ob h=>h
 exact h s Q E λt u v tk=>k _ _ _ _ (λb o e=>aaF _ e) (dP _) (aaX _ rfl) ⟨_,_,_,rfl⟩
theorem Dd(va:m.aA g args rs):Np m g st (aal (.type "range") rs) (t6 args st) m.VR:=by
 refine dQ (λ_=>?_) λ_=>dQ (λ_=>?_) λ_=>?_
 ·refine Np.dz (t:=λrs=>aal (.type "range") rs) va λa r v=>Np.aX λb hb=>?_
  subst hb
  obtain⟨t,rfl⟩:=v.int_inv
  exact qF λs Q E h=>call_range_1 (h _ _ _ _)
 ·refine Np.eP (t:=λrs=>aal (.type "range") rs) va λa b r r' v v'=>Np.aX λi hi=>Np.aX λj hj=>?_
  dsimp only at hi hj
  subst hi hj
  obtain⟨t,rfl⟩:=v.int_inv
  obtain⟨t',rfl⟩:=v'.int_inv
  exact qF λs Q E h=>call_range_2 (h _ _ _ _)
 ·refine Np.ki (t:=λrs=>aal (.type "range") rs) va λa b c r r' r'' v v' v''=>Np.aX λi hi=>Np.aX λj hj=>Np.aX λk hk=>Np.aL λhg=>?_
  dsimp only at hi hj hk
  subst hi hj hk
  obtain⟨t,rfl⟩:=v.int_inv
  obtain⟨t',rfl⟩:=v'.int_inv
  obtain⟨t'',rfl⟩:=v''.int_inv
  have hg:=qE hg
  exact qF λs Q E h=>call_range_3 (adK hg.p5) (h _ _ _ s.toks) (.inl (PyProof.noPylong_small (by have:=hg.p1;have:=hg.p2;have:=hg.p3;have:=hg.p4;have:=hg.p5;have:=hg.p6;omega)))
theorem De(hb:∃ o,m.c.b₀.get? acw=some o)(va:m.aA g args rs):Np m g st (aal (.type "dict") rs) (t7 args st) m.VR:=by
 refine Np.dz (t:=λrs=>aal (.type "dict") rs) va λa r v=>Np.bx λb hb'=>Np.dictAt λes hes=>Np.aL λhg=>?_
 subst hb'
 obtain⟨x,y,rfl,hp⟩:=v
 refine kD (o:=.dict es) rfl (λs Q E R k=>bt ?_) λg p q ob h=>h
 obtain⟨kvs,hD,h2⟩:=R.inv.dict hp hes
 obtain⟨om,hb⟩:=hb
 have ne:=R.inv.nF hp hes hb
 refine kt_call_dict (by simpa using ne) hD (qw h2 hg) λh' hm hs=>?_
 obtain⟨ob',es',ep,e1,e2⟩:=hm
 exact k _ h' ob' _ (λb o e=>(hs.2 b (abY (abN e))).trans (aaF _ e)) (dP _) e1 ⟨kvs,⟨es',ep,e2⟩,h2⟩
theorem Df(hh:m.A.handled=none)(va:m.aA g args rs):Np m g st (aal (.type "bytes") rs) (t8 args st) m.VR:=by
 refine Np.dz (t:=λrs=>aal (.type "bytes") rs) va λa r v=>?_
 cases a with
 |int i=>
  obtain⟨t,rfl⟩:=v.int_inv
  refine Np.aL λhg=>(Wp.val λs Q E R k=>?_).np
  obtain⟨h1,h2⟩:=aab.mp hg
  refine Cb (of_decide_eq_true h1) (of_decide_eq_true h2) λt k'=>k _ _ ?_
  rw[show(aiw i.toNat (0:UInt8))=(aaT i.toNat (0:UInt8)).toArray by simp]
  exact .bytes _ _
 |bytes b=>
  obtain⟨t,rfl⟩:=v.qm
  exact(Wp.val λs Q E R k=>Cc (k _ s.toks (.bytes _ _))).np
 |ref a=>
  obtain⟨x,y,rfl,hp⟩:=v
  refine Np.obj λob ho=>?_
  cases ob with
  |list xs=>
   refine Np.aL λhg=>Np.aG λb hb=>(vL λs Q E R k=>?_).np
   obtain⟨vs,i1,i2⟩:=R.inv.list hp ho
   obtain⟨ns,j1,j2,j3⟩:=CZ i2 hb
   refine call_bytes_ints i1 j1 j2 (i2.length▸aah (of_decide_eq_true hg) (by decide)) hh λh' t tk hk=>k _ _ _ hk ?_
   exact(show byteArr ns=b.toArray from congrArg List.toArray j3)▸.bytes _ _
  |bG b=>
   refine Np.aL λhg=>(Wp.val λs Q E R k=>?_).np
   have hg:=of_decide_eq_true hg
   rw[nD]at hg
   exact Cf (R.inv.bG hp ho) hg λt tk=>k _ _ (.bytes _ _)
  |_=>exact Np.no
 |_=>exact Np.no
theorem Dg(O:bE m)(va:m.aA g args rs):Np m g st (aal (.type "bytearray") rs) (t9 args st) m.VR:=by
 cases args with
 |nil=>
  rw[show rs=[] from va]
  refine kD (o:=.bG []) rfl (λs Q E R k=>?_) λg p q ob h=>h
  exact CC O.fR λh' a hk hn hb=>k a h' _ _ hk hn hb rfl
 |cons _ _=>exact Np.no
theorem Dh(O:bE m)(va:m.aA g args rs):Np m g st (aal (.type "bytearray") rs) (uc args st) m.VR:=by
 refine Np.dz (t:=λrs=>aal (.type "bytearray") rs) va λa r v=>Np.eZ λb hb=>Np.aL λhg=>?_
 subst hb
 obtain⟨t,rfl⟩:=v.qm
 have hg:=of_decide_eq_true hg
 rw[nD]at hg
 refine kD (o:=.bG b) rfl (λs Q E R k=>?_) λg p q ob h=>h
 exact vJ O.fR hg λh' a hk hn hb=>k a h' _ _ hk hn hb rfl
theorem Di(va:m.aA g args rs):Np m g st (aal (.type "list") rs) (ud args st) m.VR:=by
 refine Np.dz (t:=λrs=>aal (.type "list") rs) va λa r v=>Np.bx λb hb=>Np.bV λxs hxs=>Np.aL λhg=>?_
 subst hb
 obtain⟨x,y,rfl,hp⟩:=v
 refine kD (o:=.list xs) rfl (λs Q E R k=>bt ?_) λg p q ob h=>h
 obtain⟨vs,nn,i1,i2⟩:=R.inv.jA hp hxs
 exact call_list_seq x (.inl rfl) i1 rfl rfl (λh' c' hk hD=>k _ h' _ _ hk (dP _) hD ⟨vs,c',rfl,i2⟩) (by rw[aaE,<-i2.length];exact aah (of_decide_eq_true hg) (by decide))
theorem Dj(hh:m.A.handled=none)(va:m.aA g args rs):Np m g st (aal (.type "set") rs) (ue args st) m.VR:=by
 refine Np.dz (t:=λrs=>aal (.type "set") rs) va λa r v=>Np.bx λb hb=>Np.bV λxs hxs=>Np.aG λns hns=>Np.aL λhg=>?_
 subst hb
 obtain⟨x,y,rfl,hp⟩:=v
 refine kD (o:=.j9 (gJ ns)) rfl (λs Q E R k=>bt ?_) λg p q ob h=>h
 obtain⟨vs,i1,i2⟩:=R.inv.list hp hxs
 have hi:=qp i2 hns
 have hl:=hi.length
 have hg:=of_decide_eq_true hg
 have e:(firstMet (λi=>ns.getD i 0) vs.length).length=gJ ns:=by
  unfold firstMet gJ
  rw[hl,show(aaw ns.length).map (λi=>ns.getD i 0)=ns from afZ (by rw[aad,aap]) λi h1 h2=>by rw[adO,abl,aat,aaz h2];rfl]
 have hd:gJ ns<=ns.length:=by rw[<-e,<-hl];exact firstMet_length_le _ _
 refine PySem.call_set_list (items:=vs.toArray) (ns:=ns) hh i1 hi (by rw[aaE,hl];exact aba (abE hg) (by decide)) λh' tk hS hk=>?_
 obtain⟨o,ho,h1,es,ep,t,h2,_,_,h3,h4⟩:=hS.objOf
 have h3:es.size=gJ ns:=h3.trans e
 exact k _ h' o _ (λb o q=>hk b o (abN q) q) (dP _) ho ⟨es,ep,t,h1,h2,h4,h3▸aba (aah hd hg) (by decide),h3⟩
end
theorem Dl(O:bE m)(hb:∃ o,m.c.b₀.get? acw=some o)(hh:m.A.handled=none){n:String}{args:List V}{rs:Vs}(va:m.aA g args rs):Np m g st (aal (.type n) rs) (uf n args st) m.VR:=
 dQ (λe=>e▸Dc va) λ_=>dQ (λe=>e▸Dd va) λ_=>dQ (λe=>e▸Df hh va) λ_=>dQ (λe=>e▸dQ (λ_=>Dg O va) λ_=>Dh O va) λ_=>
  dQ (λe=>e▸Di va) λ_=>dQ (λe=>e▸De hb va) λ_=>dQ (λe=>e▸Dj hh va) λ_=>Np.no
end
section
open _root_.PySem.SeqAt
section
variable {prog:acI} {w:World} {A:aaY} {E:Value->Sh} {s:aaC} {K:Frag} {x y C:Addr} {ox oy od od':Obj}
theorem Dm{Q:Value->Sh}(X:K.In s.heap)(I:InstAt s.heap x ox C (some od))(J:InstAt s.heap y oy C (some od'))(hq:iO K C=true)(hxy:x≠y)(h:Q .notImplemented s):
  wpAny (model prog w) A (aal (.builtin "object.__eq__") [.ref x,.ref y]) Q E s:=by
 simp only[iO,abD,beq_iff_eq]at hq
 obtain⟨h1,h2⟩:=hq
 obtain⟨cd,hc,ho⟩:=any_some h2
 have ne:cd.mro.isEmpty=false:=by cases q:cd.mro with |nil=>rw[q]at ho;cases ho |cons _ _=>rfl
 have sub:Looks (model prog w) s.heap (aeK (.ref x) (.type "object")) true:=I.type.andThen (looks_mroIn X (by unfold mroIn;rw[hc,Option.bind_some,if_neg (by rw[ne];decide),only_has ho]))
 refine aeL (adm F.cmp_object.eq.plain F.cmpEntry_eq (@ahJ (model prog w) _ _ s "object.__eq__" "object" "__eq__" (.ref x) [.ref y] [] _ F.cmpKind_eq F.cmpSplit_eq sub (F.cmpArgs_eq (.ref x) (.ref y)) ?_))
 exact objEq_entry_other hxy I.at_ J.at_ (by rw[I.cls];exactλe=>by contradiction) h
theorem vP{Q:Option Value->Sh}(X:K.In s.heap)(I:InstAt s.heap x ox C (some od))(J:InstAt s.heap y oy C (some od'))(hq:iO K C=true)(hxy:x≠y)(h:Q none s):
  wpAny (model prog w) A (tryCompare (.ref x) "__eq__" (.ref y)) Q E s:=by
 have h1:aes K (.ref C) "__eq__"=some (some (.builtin "object.__eq__")):=by simp only[iO,abD,beq_iff_eq]at hq;exact hq.1
 unfold tryCompare
 refine wpAny_bind ?_
 simp only[callSpecialIfBound?,bindSpecialIfBound?,ahb]
 refine abT (wpAny_bind (wpAny_bind (wpAny_bind (I.type.here ((aea X h1).here ?_)))))
 dsimp only[cq,bZ]
 simp only[F.cmp_object.eq.bind]
 refine wpAny_bind (akk (wpAny_ite ?_))
 have fin:wpAny (model prog w) A (aal (.builtin "object.__eq__") ([.ref x]++[.ref y])>>=λv=>pure (some v)) (λr s'=>wpAny (model prog w) A (match r with |some .notImplemented |none=>pure none |some v=>pure (some v)) Q E s') E s:=
  wpAny_bind (Dm X I J hq hxy (aai (aai h)))
 split
 ·exact wpAny_bind (aai (aai fin))
 ·exact wpAny_tryCatch (wpAny_bind (aai (aai fin)))
theorem Dn(X:K.In s.heap)(I:InstAt s.heap x ox C (some od))(J:InstAt s.heap y oy C (some od'))(hq:iO K C=true)(hxy:x≠y)(hu:A.units<cLine):RcAt A s (.ref x) (.ref y) false:=λprog w E Q h=>by
 unfold richCompare
 simp only[oneThing_ref]
 refine abT (wpAny_bind (wpAny_cRoomFor hu ?_))
 refine wpAny_bind (I.type.here (wpAny_bind (J.type.here ?_)))
 dsimp only[cq,bZ]
 rw[if_neg (by simp)]
 refine wpAny_bind (aai ?_)
 dsimp only[cq,bZ]
 simp only[aaK,if_false]
 refine wpAny_bind (vP X I J hq hxy ?_)
 dsimp only[cq,bZ]
 rw[if_pos (by decide)]
 refine wpAny_bind (vP X J I hq hxy.symm ?_)
 dsimp only[cq,bZ]
 refine wpAny_bind (acK (wpAny_bind (wpAny_isSame_ref_other hxy I.at_ J.at_ (by rw[I.cls];exactλe=>by contradiction) (aai h))))
theorem Dp{l:Addr}{items:Array Value}{n j:Nat}{v:Value}(hj:j<items.size)(hs1:items.size<=adV){Q:Value->Sh}
  (hl:s.heap.get? l=some {cls:=.type "list",data:=.seq items n}) (he:∀ i (hi:i<items.size),i<=j->EqAt A.in1 s items[i] v (decide (i=j)))
  (h:Q .none {s with heap:=s.heap.update l (agM λxs=>xs.eraseIdxIfInBounds j)}):
  wpAny (model prog w) A (aal (.builtin "list.remove") [.ref l,v]) Q E s:=by
 have loop:∀ k i:Nat,j-i=k->i<=j->ajc (model prog w) A (.builtin "list.remove.loop" ⟨[.ref l,v,adF i],[]⟩) (λr s'=>match r with | .ok (.ret v)=>Q v s' | .ok _=>False | .error e=>E e s') s:=by
  intro k
  induction k with
  |zero=>
   intro i hk hij
   have hij':i=j:=agw hij (Nat.le_of_sub_eq_zero hk)
   subst hij'
   refine afr aeE ?_
   rw[adb aco _]
   unfold aaD.«list.remove.loop» afS
   dsimp only
   refine wpAny_bind (wpAny_bind (afL hl rfl (aai ?_)))
   have hi:items[((i:Nat):Int).toNat]? =some items[i]:=by simp[hj]
   dsimp only[cq,bZ]
   rw[hi]
   dsimp only
   refine wpAny_bind (he i hj (aaZ _) prog w E _ ?_)
   rw[decide_eq_true rfl]
   refine aeJ rfl ?_
   have hz':(items.eraseIdxIfInBounds i).size<=adV+1:=by
    have:(items.eraseIdxIfInBounds i).size<=items.size:=by
     unfold Array.eraseIdxIfInBounds;split<;>simp
    exact ade (aah this hs1)
   unfold ajY
   refine wpAny_bind (wpAny_updateSeq hl rfl (hz:=hs1) (_hz':=hz') ?_)
   exact aai h
  |succ k ih=>
   intro i hk hij
   have hlt:i<items.size:=aba hij hj
   refine afr aeE ?_
   rw[adb aco _]
   unfold aaD.«list.remove.loop» afS
   dsimp only
   refine wpAny_bind (wpAny_bind (afL hl rfl (aai ?_)))
   have hi:items[((i:Nat):Int).toNat]? =some items[i]:=by simp[hlt]
   dsimp only[cq,bZ]
   rw[hi]
   dsimp only
   refine wpAny_bind (he i hlt hij prog w E _ ?_)
   rw[decide_eq_false (by rintro rfl;rw[ajZ]at hk;contradiction)]
   refine abn rfl ?_
   have hc:((i:Int)+1)=((i+1:Nat):Int):=by push_cast;rfl
   rw[hc]
   exact aai ⟨aeX aco _,ih (i+1) (by rw[Nat.sub_add_eq,hk];rfl) (Nat.lt_of_sub_eq_succ hk)⟩
 refine aeL (adm afT.plain F.entry_list_remove (afT.check _ _ _ _ _ _ _ _ ⟨_,hl,rfl⟩ (F.args_list_remove_2 _ _) ?_))
 unfold aaD.«list.remove»
 refine wpAny_bind (aai ?_)
 exact aai ⟨aeX aco _,loop j 0 rfl (abh _)⟩
end
section
variable {m:Am} {g:Gs} {st:St} {α:Type} {P:a9} {K:Frag} {mg mb:Str->Option Value}
theorem Np.heap{β α:Type}{f:Hp->M α}{t:Sem β}{rel:Gs->α->β->Prop}(h:Np m g st t (f st.H st) rel):Np m g st t ((Lite.heap>>=f) st) rel:=h
theorem vQ{H:Hp}{v:V}{C:Addr}(e:gk H v=some C):bT λa fs=>v=.ref a∧H[a]? =some (.inst C fs):=by
 obtain⟨x,e1,rfl⟩:=aaR.mp e
 obtain⟨o,e2,h1⟩:=aaj.mp e1
 obtain⟨a,h2,h3⟩:=aaj.mp e2
 exact⟨a,x.2,hH h2,h3.trans (congrArg some (qg h1))⟩
theorem vR{b:Nat}{v:V}(h:isRef b v=true):v=.ref b:=by
 cases v<;>first |contradiction |exact congrArg V.ref (beq_iff_eq.mp h)
theorem Dq{c:Cx}{H:Hp}{C:Addr}{s:aaC}{A:aaY}(I:Inv c g H s.heap)(PK:cO c P K mg mb)(hq:P.eqs.contains C=true)(hu:A.units<cLine){v v':V}{r r':Value}(hv:gk H v=some C)(hv':gk H v'=some C)(ne:v≠v')(q:VR c g v r)(q':VR c g v' r'):EqAt A s r r' false:=by
 obtain⟨a,fs,rfl,ha⟩:=vQ hv
 obtain⟨b,fs',rfl,hb⟩:=vQ hv'
 obtain⟨x,y,rfl,hp⟩:=q
 obtain⟨x',y',rfl,hp'⟩:=q'
 have nx:=I.inj hp ha hp' hb λe=>ne (congrArg V.ref e)
 obtain⟨ds,n,J,_⟩:=I.inst hp ha
 obtain⟨ds',n',J',_⟩:=I.inst hp' hb
 exact afQ nx (Dn (PK.KX.keeps I.base) J J' (PK.eqs _ hq) nx hu)
theorem Dr{c:Cx}{s:aaC}{A:aaY}{b:Nat}{r r':Value}(q:VR c g (.ref b) r)(q':VR c g (.ref b) r'):EqAt A s r r' true:=by
 obtain⟨x,y,rfl,hp⟩:=q
 obtain⟨x',y',rfl,hp'⟩:=q'
 rw[show x=x' from congrArg aei (aae.inj (hp.symm.trans hp'))]
 exact EqAt.same _
theorem Ds(O:bE m)(PK:cO m.c P K mg mb)(hu:m.A.units+1<cLine){args:List V}{rs:Vs}(va:m.aA g args rs):
  Np m g st (aal (.builtin "list.remove") rs) (pK P args st) m.VR:=by
 refine Np.eP (t:=λrs=>aal (.builtin "list.remove") rs) va λa' b' r r' w w'=>Np.bx λa ha=>Np.bx λb hb=>?_
 dsimp only at ha hb
 subst ha hb
 obtain⟨x,y,rfl,hp⟩:=w
 refine Np.bV λxs hxs=>Np.heap (Np.aG λC hC=>Np.aL λhg=>Np.aG λk hk=>?_)
 obtain⟨hg,g3⟩:=aab.mp hg
 obtain⟨g1,g2⟩:=aab.mp hg
 rw[qD]
 refine Np.turned (o':=.list (xs.eraseIdx k)) hp hxs rfl rfl .none λs Q E R kk=>bt ?_
 obtain⟨vs,n,i1,i2⟩:=R.inv.jA hp hxs
 obtain⟨kl,ke,kn⟩:=afx.mp hk
 have hlen:=i2.length
 have hks:k<vs.toArray.size:=by rw[aaE,<-hlen];exact kl
 refine Dp hks (by rw[aaE,<-hlen];exact aah (of_decide_eq_true g2) (by decide)) i1 (λi hi hij=>?_) (kk _ _ _ (λd o hd q=>((acH s.heap x _).2 d hd).trans q) ?_ ⟨vs.eraseIdx k,n+1,rfl,i2.eraseIdx k⟩)
 ·have hi':i<xs.length:=aba hij kl
  obtain⟨v,q1,q2⟩:=i2.get (aaz hi')
  rw[getElem_eq rfl hi q1]
  by_cases e:i=k
  ·subst e
   rw[decide_eq_true rfl]
   exact Dr (vR ke▸q2) w'
  ·rw[decide_eq_false e]
   exact Dq R.inv PK g1 hu (beq_iff_eq.mp (aaV.mp g3 _ (aga hi'))) hC (λz=>kn i (air hij e) (z▸beq_self_eq_true b)) q2 w'
 ·have:=mapSeq_erase vs.toArray n k hks
  rw[abO _ i1 (by rw[this];rfl),this]
end
end
section
open _root_.PySem.SeqAt
theorem Du:PlainAttrs "bytearray":=⟨⟨"bytearray.__getattribute__",by rw[aaQ,aaA];kernel_rfl,by decide+kernel⟩,by rw[aaQ,aaA];kernel_rfl⟩
theorem Dv:ahc (.builtin "bytearray.extend")=pure (.type "method_descriptor"):=by show builtinType _=_;rw[builtinType_eq_fast];kernel_rfl
section
variable {m:Am} {g:Gs} {st:St} {α:Type} {P:a9} {K:Frag} {mg mb:Str->Option Value}
theorem nK{a b:Str}(h:(a==b)=true):a=b:=beq_iff_eq.mp h
theorem Np.pick{b:Bool}{x:V×List V}{t:Sem (Value×Vs)}(h:b=true->Np m g st t (.ok x st) (RelM m.c)):Np m g st t (Lite.pick b x st) (RelM m.c):=Np.aL h
theorem nL{x y:Addr}{a:Nat}{n:String}(hp:g.ρ[a]? =some (x,y)):RelM m.c g (.bi n,[.ref a]) (.builtin n,[.ref x]):=⟨.bi _,.cons (.ref hp) .nil⟩
theorem Dw{x y:Addr}{a:Nat}{xs:List V}{pl:Sem Bool}{nm:Str}(hp:g.ρ[a]? =some (x,y))(ho:st.H[a]? =some (.list xs)):Np m g st (aiE (.ref x) nm pl) (lD P (.ref a) nm (.list xs) st) (RelM m.c):=by
 show Np m g st _ ((if nm==("append":Str)then aak (V.bi "list.append",[V.ref a])else Lite.pick (nm==("remove":Str)) (V.bi "list.remove",[V.ref a]):M (V×List V)) st) _
 by_cases h1:(nm==("append":Str))=true
 ·rw[if_pos h1,nK h1]
  refine Wp.np λs Q E R k=>?_
  obtain⟨vs,n,i1,i2⟩:=R.inv.jA hp ho
  exact aeM ⟨_,i1,rfl⟩ aiU F.slot_list_append F.type_list_append (λb e=>by cases e;exact⟨_,i1,rfl⟩) (k g s.heap s.toks _ (.refl g) R (nL hp))
 ·rw[if_neg h1]
  refine Np.pick λh2=>Wp.np λs Q E R k=>?_
  rw[nK h2]
  obtain⟨vs,n,i1,i2⟩:=R.inv.jA hp ho
  exact aeM ⟨_,i1,rfl⟩ aiU afT F.type_list_remove (λb e=>by cases e;exact⟨_,i1,rfl⟩) (k g s.heap s.toks _ (.refl g) R (nL hp))
theorem Dx(PK:cO m.c P K mg mb){v:V}{rv:Value}{nm:Str}{pl:Sem Bool}(vv:m.VR g v rv):Np m g st (aiE rv nm pl) (getM P v nm st) (RelM m.c):=by
 refine Np.bx λa ha=>?_
 subst ha
 obtain⟨x,y,rfl,hp⟩:=vv
 refine Np.obj λob ho=>?_
 cases ob with
 |inst C fs=>exact Np.aG λk hk=>Np.aL λhn=>Np.aG λf hf=>(BJ PK (.ref hp) ho hk hn hf).np
 |list xs=>exact Dw hp ho
 |dict es=>
  refine Np.pick λh=>Wp.np λs Q E R k=>?_
  rw[nK h]
  obtain⟨kvs,i1,i2⟩:=R.inv.dict hp ho
  exact aeM i1.mapOf.typeIs F.plainAttrs_dict agF F.type_dict_get i1.mapOf.noDict (k g s.heap s.toks _ (.refl g) R (nL hp))
 |bG b=>
  refine Np.pick λh=>Wp.np λs Q E R k=>?_
  rw[nK h]
  have i1:=R.inv.bG hp ho
  exact aeM i1.type Du qC Dv (λb e=>by cases e;exact⟨_,i1,rfl⟩) (k g s.heap s.toks _ (.refl g) R (nL hp))
 |_=>exact Np.no
theorem Dy{env:Env}{r:List Expr}(e:Expr):notStar e=true->ael (e::r) env=(false,eval e env)::ael r env:=
 aaO (motive_1:=λe=>notStar e=true->ael (e::r) env=(false,eval e env)::ael r env) e (λ_ _ _ _=>rfl) (λ_ _ _ _=>rfl) (λ_ _ _ _ _=>rfl) (λ_ _ _ _=>rfl) (λ_ _ _ _ _=>rfl) (λ_ _ _ _ _=>rfl) (λ_ _ _ _=>rfl) (λ_ _ _ _=>rfl) (λ_ _ _ _ _=>rfl) (λ_ _ _ _ _=>rfl) (λ_ _ _ _ _ _=>rfl) (λ_ _ _ _ _=>rfl) (λ_ _ _=>rfl) (λ_ _ _=>rfl) (λ_ _ _=>rfl) (λ_ _ _ _ _=>rfl) (λ_ _ _ _ _=>rfl) (λ_ _ _ _ _=>rfl) (λ_ _ _=>rfl) (λ_ _ _ _=>rfl) (λ_ _ _ _=>rfl) (λ_ _ _ _=>rfl) (λa b=>λh=>aaa h) (λ_ _ _=>rfl) (λ_ _ _=>rfl) (λ_ _ _ _=>rfl) (λ_ _ _ _ _=>rfl)
theorem iP{env:Env}{args:List Expr}(h:args.all notStar=true):ael args env=args.map λe=>(false,eval e env):=by
 induction args with
 |nil=>rfl
 |cons e r ih=>
  obtain⟨h1,h2⟩:=aab.mp (agJ▸h)
  rw[Dy e h1,ih h2];rfl
theorem iQ{env:Env}{pos:Pos}(args:List Expr):ahK pos (args.map λe=>(false,eval e env))=args.map λe=>(false,eval e env):=by
 unfold ahK
 rw[abP]
 rfl
theorem lR{env:Env}(args:List Expr):(args.map λe=>(false,eval e env)).any (·.1)=false:=by
 rw[List.any_map];simp
theorem all_plain{env:Env}(args:List Expr):(args.map λe=>(false,eval e env)).all (λx=>!x.1)=true:=by
 rw[ajy];simp
theorem qG{ev:Expr->M V}(h:∀ e,dr m (eval e m.env) (ev e) m.VR)(args:List Expr):∀ (g:Gs) (st:St),Np m g st (aeg (args.map λe=>(false,eval e m.env))) (eQ ev args st) m.aA:=by
 induction args with
 |nil=>exactλg st=>Np.pure .nil
 |cons e r ih=>
  intro g st
  rw[aaH,aeg]
  show Np m g st _ ((ev e>>=λv=>eQ ev r>>=λvs=>aak (v::vs)) st) _
  refine Np.bind (h e g st) λv st₁ g₁ b e1 x q=>?_
  simp only[aaK,if_false]
  exact fJ (Np.bind (Np.holding (ih g₁ st₁)) λvs st2 g₂ bs e2 x2 q2=>Np.pure (.cons (q.mono x2) q2))
end
end
section
open _root_.PySem.SeqAt
structure aB(m:Am)(P:a9)(K:Frag)(mg mb:Str->Option Value):Prop where
 O:bE m
 PK:cO m.c P K mg mb
 sys:∃ o,m.c.b₀.get? acw=some o
section
variable {m:Am} {g:Gs} {st:St} {α:Type} {P:a9} {K:Frag} {mg mb:Str->Option Value}
theorem M.bind_assoc{α β γ:Type}(f:M α)(k:α->M β)(l:β->M γ):((f>>=k)>>=l)=(f>>=λa=>k a>>=l):=by
 funext s
 show M.bind (M.bind f k) l s=M.bind f (λa=>M.bind (k a) l) s
 unfold M.bind
 cases f s<;>rfl
theorem Dz(PK:cO m.c P K mg mb)(k:Const):Np m g st (constValue m.env k) (const P k st) m.VR:=by
 cases k with
 |none=>exact Np.pure .none
 |bool b=>exact Np.pure (.bool b)
 |int i=>
  refine(Wp.val (v:=.int i) λs Q E R k=>?_).np
  exactλ_ _ _=>k _ (s.toks+1) (.int i s.toks)
 |str x=>
  refine Np.aG λk hk=>(Wp.val λs Q E R kk=>?_).np
  have hT:=u6 hk
  rw[<-PK.T]at hT
  exactλ_ _ _=>kk _ (s.toks+1) (.str s.toks hT)
 |bytes b=>
  refine(Wp.val (v:=.bytes b) λs Q E R k=>?_).np
  exactλ_ _ _=>k _ (s.toks+1) (.bytes b s.toks)
 |_=>exact Np.no
theorem Inv.here{c:Cx}{H:Hp}{h:Heap}(I:Inv c g H h){a:Nat}{p:Addr×Addr}(hp:g.ρ[a]? =some p):∃ o,H[a]? =some o:=by
 have:=(aan.mp hp).1
 rw[I.len]at this
 exact⟨_,aaz this⟩
theorem qH(a b:V):Still (kf a b):=by
 cases b with
 |none=>exact Still.aG _
 |ref b=>
  cases a with
  |none=>exact .pure _
  |ref a=>
   show Still (sameRef a b)
   unfold sameRef
   by_cases h:a=b
   ·rw[if_pos h];exact .pure _
   ·rw[if_neg h];exact(Still.dy _ _).bind λ_=>.pure _
  |_=>exact .no
 |_=>exact .no
theorem DA{a:V}{ra:Value}{r:Bool}(va:m.VR g a ra)(e:tP a=some r):eT m g st .Is ra .none r∧eT m g st .IsNot ra .none (!r):=by
 cases a with
 |none=>
  rw[show ra=.none from va,<-aae.inj e]
  exact⟨λs Q E R k=>is_none_none (k _),λs Q E R k=>isnot_none_none (k _)⟩
 |ref a=>
  obtain⟨x,y,rfl,_⟩:=va
  rw[<-aae.inj e]
  exact⟨λs Q E R k=>ajN (λz=>abL z) (k _),λs Q E R k=>aie (λz=>abL z) (k _)⟩
 |int a=>
  obtain⟨t,rfl⟩:=va
  rw[<-aae.inj e]
  exact⟨λs Q E R k=>ajN (λz=>abL z) (k _),λs Q E R k=>aie (λz=>abL z) (k _)⟩
 |bytes a=>
  obtain⟨t,rfl⟩:=va
  rw[<-aae.inj e]
  exact⟨λs Q E R k=>ajN (λz=>abL z) (k _),λs Q E R k=>aie (λz=>abL z) (k _)⟩
 |_=>exact ai e
theorem DB{a b:Nat}{ra rb:Value}{r:Bool}{st':St}(va:m.VR g (.ref a) ra)(vb:m.VR g (.ref b) rb)(e:sameRef a b st=.ok r st'):eT m g st .Is ra rb r∧eT m g st .IsNot ra rb (!r):=by
 obtain⟨x,y,rfl,hp⟩:=va
 obtain⟨x',y',rfl,hp'⟩:=vb
 unfold sameRef at e
 by_cases h:a=b
 ·rw[if_pos h]at e
  subst h
  rw[hJ e,show x'=x from congrArg aei (aae.inj (hp'.symm.trans hp))]
  exact⟨λs Q E R k=>wpAny_is_ref_self (k _),λs Q E R k=>wpAny_isNot_ref_self (k _)⟩
 ·rw[if_neg h]at e
  obtain⟨z,hz,e⟩:=(Still.dy _ _).inv e
  obtain⟨o,ho,hoi⟩:=uO hz
  rw[qg hoi]at ho
  rw[hJ e]
  have key:∀ {h:Heap},Inv m.c g st.H h->∃ ob2,aO (x≠x') (h.get? x=some (aeY z.1 y)) (h.get? x'=some ob2):=λI=>by
   obtain⟨ob,h1,h2⟩:=I.obj hp ho
   obtain⟨o2,ho2⟩:=I.here hp'
   obtain⟨ob2,h3,h4⟩:=I.obj hp' ho2
   exact⟨ob2,I.inj hp ho hp' ho2 h,h1.trans (congrArg some h2),h3⟩
  refine⟨λs Q E R k=>?_,λs Q E R k=>?_⟩
  all_goals obtain⟨ob2,ne,h1,h2⟩:=key R.inv
  ·exact wpAny_is_ref_other ne h1 h2 (λe=>abL e) (k _)
  ·exact wpAny_isNot_ref_other ne h1 h2 (λe=>abL e) (k _)
theorem vS{a b:V}{ra rb:Value}{r:Bool}{st':St}(va:m.VR g a ra)(vb:m.VR g b rb)(e:kf a b st=.ok r st'):eT m g st .Is ra rb r∧eT m g st .IsNot ra rb (!r):=by
 cases b with
 |none=>
  rw[show rb=.none from vb]
  exact DA va (nB e)
 |ref b=>
  cases a with
  |none=>
   rw[show ra=.none from va]
   obtain⟨x,y,rfl,hp⟩:=vb
   rw[hJ e]
   exact⟨λs Q E R k=>wpAny_is_other rfl (λz=>abL z) (k _),λs Q E R k=>wpAny_isNot_other rfl (λz=>abL z) (k _)⟩
  |ref a=>exact DB va vb e
  |_=>exact kz e
 |_=>exact kz e
theorem DD:Still heap:=λst=>.inl ⟨st.H,rfl⟩
theorem qI(a b:V):Still (m9 a b):=DD.bind λ_=>Still.aG _
theorem qJ{f:M Bool}(h:Still f):Still (lB f):=h.bind λ_=>.pure _
theorem qK{f:M Bool}{r:Bool}{st':St}(h:Still f)(e:lB f st=.ok r st'):∃ x,f st=.ok x st∧r= !x:=by
 obtain⟨x,h1,h2⟩:=h.inv e
 exact⟨x,h1,hJ h2⟩
theorem nM(f:Int->Int->Bool)(a b:V):Still (kg f a b):=(Still.aG _).bind λ_=>(Still.aG _).bind λ_=>.pure _
theorem nN{f:Int->Int->Bool}{a b:V}{ra rb:Value}{r:Bool}{st':St}(va:m.VR g a ra)(vb:m.VR g b rb)(e:kg f a b st=.ok r st'):d9 λi j t u=>aO (ra=.int i t) (rb=.int j u) (r=f i j):=by
 obtain⟨i,hi,e⟩:=ky e
 obtain⟨j,hj,e⟩:=ky e
 rw[g9 hi]at va
 rw[g9 hj]at vb
 obtain⟨t,rfl⟩:=va
 obtain⟨u,rfl⟩:=vb
 exact⟨i,j,t,u,rfl,rfl,hJ e⟩
theorem vT(G:aB m P K mg mb){a b:V}{ra rb:Value}{r:Bool}{st':St}(va:m.VR g a ra)(vb:m.VR g b rb)(e:m9 a b st=.ok r st'):eT m g st .Eq ra rb r∧eT m g st .NotEq ra rb (!r):=by
 have hr:gj st.H 4 a b=some r:=nB e
 have hu:m.A.units+4<cLine:=aba (aec (aah (by decide) (ahR 24 (adL m.d))) _) G.O.hV
 exact⟨λs Q E R k=>(u4 (A:=m.A) G.PK.nd R.inv 4 hr va vb hu).rc _ _ _ _ (k _),λs Q E R k=>(u4 (A:=m.A) G.PK.nd R.inv 4 hr va vb hu).ne _ _ _ _ (k _)⟩
theorem nO(op:CmpOp)(a b:V):Still (cF op a b):=
 aiQ (motive:=λop=>Still (cF op a b)) op (qI a b) (qJ (qI a b)) (nM _ a b) (nM _ a b) (nM _ a b) (nM _ a b) (qH a b) (qJ (qH a b)) (qr a b) (qJ (qr a b))
theorem nP(G:aB m P K mg mb){op:CmpOp}{a b:V}{ra rb:Value}{r:Bool}{st':St}(va:m.VR g a ra)(vb:m.VR g b rb)(e:cF op a b st=.ok r st'):eT m g st op ra rb r:=by
 cases op with
 |Lt=>obtain⟨i,j,t,u,rfl,rfl,rfl⟩:=nN va vb e;exactλs Q E R k=>aka (k _)
 |LtE=>obtain⟨i,j,t,u,rfl,rfl,rfl⟩:=nN va vb e;exactλs Q E R k=>akb (k _)
 |Gt=>obtain⟨i,j,t,u,rfl,rfl,rfl⟩:=nN va vb e;exactλs Q E R k=>akc (k _)
 |GtE=>obtain⟨i,j,t,u,rfl,rfl,rfl⟩:=nN va vb e;exactλs Q E R k=>akd (k _)
 |Eq=>exact(vT G va vb e).1
 |NotEq=>obtain⟨x,h,rfl⟩:=qK (qI a b) e;exact(vT G va vb h).2
 |Is=>exact(vS va vb e).1
 |IsNot=>obtain⟨x,h,rfl⟩:=qK (qH a b) e;exact(vS va vb h).2
 |In=>exact(u5 G.sys va vb e).1
 |NotIn=>obtain⟨x,h,rfl⟩:=qK (qr a b) e;exact(u5 G.sys va vb h).2
theorem eT.np{op:CmpOp}{ra rb:Value}{r:Bool}(C:eT m g st op ra rb r):Np m g st (afq op ra rb) (.ok (.bool r) st) m.VR:=(Wp.val λs Q E R k=>C s Q E R λtk=>k _ tk (.bool _)).np
theorem vU{β:Type}{op:CmpOp}{ra rb:Value}{t:Bool}(C:eT m g st op ra rb t){vs:Vs}{k:Value->Sem β}{r:R α}{rel:Gs->α->β->Prop}(h:Np m g st (k (.bool t)) r rel):Np m g st (abb vs (afq op ra rb)>>=k) r rel:=
 λs Q E R P=>aC (abT (C s _ E R λtk=>h {s with toks:=tk} Q E R (P.shift (.refl g))))
theorem lS{β:Type}{vs:Vs}{t:Sem Value}{r:R α}{rel:Gs->α->Value->Prop}(h:Np m g st t r rel):Np m g st (aic vs t) r rel:=λs Q E R P Γ p hΓ n=>by
 rw[Sem.wp_operate];exact h s Q E R P Γ p hΓ n
theorem vV{b:Bool}:Np m g st (agW (.bool b)) (.ok b st:R Bool) fU:=(Wp.pure (m:=m) (g:=g) (st:=st) (rel:=fU) rfl).np
theorem qL{β:Type}{b:Bool}{vs:Vs}{k:Bool->Sem β}{r:R α}{rel:Gs->α->β->Prop}(h:Np m g st (k b) r rel):Np m g st (abb vs (agW (.bool b))>>=k) r rel:=
 λs Q E R P=>aC (abT (agz (h s Q E R P)))
variable {ev:Expr->M V}
structure bf(m:Am)(ev:Expr->M V):Prop where
 snd:∀ e,dr m (eval e m.env) (ev e) m.VR
 kE:∀ e st,(e.ctorIdx==7)=true->ev e st=.no
 use:∀ elt gens scope p (n:Str) (q:Pos),m.env.kindOf n=some .local->dr m (afX (.ListComp elt gens scope p) m.env (acL (.Name n q) m.env)) (ev (.ListComp elt gens scope p)>>=λx=>store m.sc n x) ct
theorem DE{op:CmpOp}{e:Expr}:aif op e=true->(e.ctorIdx==7)=true:=
 aaO (motive_1:=λe=>aif op e=true->(e.ctorIdx==7)=true) e (λ_ _ _ h=>aaa h) (λ_ _ _ h=>aaa h) (λ_ _ _ _ h=>aaa h) (λ_ _ _ h=>aaa h) (λ_ _ _ _ h=>aaa h) (λ_ _ _ _ h=>aaa h) (λ_ _ _ h=>aaa h) (λa b c=>λ_=>rfl) (λ_ _ _ _ h=>aaa h) (λ_ _ _ _ h=>aaa h) (λ_ _ _ _ _ h=>aaa h) (λ_ _ _ _ h=>aaa h) (λ_ _ h=>aaa h) (λ_ _ h=>aaa h) (λ_ _ h=>aaa h) (λ_ _ _ _ h=>aaa h) (λ_ _ _ _ h=>aaa h) (λ_ _ _ _ h=>aaa h) (λ_ _ h=>aaa h) (λ_ _ _ h=>aaa h) (λ_ _ _ h=>aaa h) (λ_ _ _ h=>aaa h) (λ_ _ h=>aaa h) (λ_ _ h=>aaa h) (λ_ _ h=>aaa h) (λ_ _ _ h=>aaa h) (λ_ _ _ _ h=>aaa h)
theorem vX(H:bf m ev)(op:CmpOp)(e:Expr):Np m g st (ahs op e (eval e m.env)) (ev e st) m.VR:=by
 cases hb:aif op e with
 |false=>rw[markedBehindIn_of_false hb];exact H.snd e g st
 |true=>rw[H.kE e st (DE hb)];exact Np.no
theorem nQ{α β:Type}{a:α}{l:List α}{p:Prop}(h:([]:List β).length=(a::l).length):p:=by cases h
theorem DF(G:aB m P K mg mb)(H:bf m ev)(pos:Pos)(ops:List CmpOp):∀ (es:List Expr) (a:V) (ra:Value) (g:Gs) (st:St),ops.length=es.length->m.VR g a ra->
  Np m g st (compareChain pos ra ops (ahL ops es (agP es m.env))) ((iK ev a ops es>>=λt=>aak (V.bool t)) st) m.VR:=by
 induction ops with
 |nil=>exactλ_ _ _ _ _ _ _=>Np.no
 |cons op ops ih=>
  intro es a ra g st hl va
  cases es with
  |nil=>exact Np.no
  |cons e es=>
   show Np m g st _ (((ev e>>=λb=>cF op a b>>=λt=>if ops.isEmpty then aak t else if t then iK ev b ops es else aak false)>>=λt=>aak (V.bool t)) st) _
   rw[M.bind_assoc]
   cases ops with
   |nil=>
    cases es with
    |cons _ _=>exact nQ (acu.inj hl)
    |nil=>
     show Np m g st (do let rv<-ace [ra] (ahs op e (eval e m.env));acr pos;aic [ra,rv] (afq op ra rv)) _ _
     refine Np.bind (Np.holding (vX H op e)) λb st₁ g₁ rb e1 x vb=>Np.standAt (lS (β:=Unit) ?_)
     rw[M.bind_assoc]
     exact Np.bI (nO _ _ _) λt ht=>(nP G (va.mono x) vb ht).np
   |cons op2 ops=>
    cases es with
    |nil=>exact nQ (acu.inj hl).symm
    |cons e2 es=>
     show Np m g st (do let rv<-ace [ra] (eval e m.env);acr pos;let c<-ace [ra,rv] (afq op ra rv);release [ra,rv] [c];if<-ace [c,rv] (agW c)then compareChain pos rv (op2::ops) (ahL (op2::ops) (e2::es) (agP (e2::es) m.env))else pure c) _ _
     refine Np.bind (Np.holding (H.snd e g st)) λb st₁ g₁ rb e1 x vb=>Np.standAt ?_
     rw[M.bind_assoc]
     refine Np.bI (nO _ _ _) λt ht=>vU (nP G (va.mono x) vb ht) (Np.release (qL ?_))
     cases t with
     |true=>exact ih (e2::es) b rb g₁ st₁ (acu.inj hl) vb
     |false=>exact Np.pure (.bool _)
theorem DG(G:aB m P K mg mb)(H:bf m ev)(pos:Pos)(ops:List CmpOp):∀ (es:List Expr) (a:V) (ra:Value) (g:Gs) (st:St),ops.length=es.length->m.VR g a ra->
  Np m g st (testChain pos ra ops (ahL ops es (agP es m.env))) (iK ev a ops es st) fU:=by
 induction ops with
 |nil=>exactλ_ _ _ _ _ _ _=>Np.no
 |cons op ops ih=>
  intro es a ra g st hl va
  cases es with
  |nil=>exact Np.no
  |cons e es=>
   show Np m g st _ ((ev e>>=λb=>cF op a b>>=λt=>if ops.isEmpty then aak t else if t then iK ev b ops es else aak false) st) _
   cases ops with
   |nil=>
    cases es with
    |cons _ _=>exact nQ (acu.inj hl)
    |nil=>
     show Np m g st (do let rv<-ace [ra] (ahs op e (eval e m.env));acr pos;let c<-aic [ra,rv] (afq op ra rv);ace [c] (agW c)) _ _
     refine Np.bind (Np.holding (vX H op e)) λb st₁ g₁ rb e1 x vb=>Np.standAt ?_
     refine Np.bI (nO _ _ _) λt ht=>Np.bind (f':=λ_=>aak t) (f:=λst=>.ok (V.bool t) st) (lS (β:=Unit) (nP G (va.mono x) vb ht).np) λv st2 g₂ rv e2 x2 vv=>?_
     cases e2
     rw[show rv=.bool t from vv]
     exact Np.holding vV
   |cons op2 ops=>
    cases es with
    |nil=>exact nQ (acu.inj hl).symm
    |cons e2 es=>
     show Np m g st (do let rv<-ace [ra] (eval e m.env);acr pos;let c<-ace [ra,rv] (afq op ra rv);release [ra,rv] [c];if<-ace [c,rv] (agW c)then testChain pos rv (op2::ops) (ahL (op2::ops) (e2::es) (agP (e2::es) m.env))else pure false) _ _
     refine Np.bind (Np.holding (H.snd e g st)) λb st₁ g₁ rb e1 x vb=>Np.standAt ?_
     refine Np.bI (nO _ _ _) λt ht=>vU (nP G (va.mono x) vb ht) (Np.release (qL ?_))
     cases t with
     |true=>exact ih (e2::es) b rb g₁ st₁ (acu.inj hl) vb
     |false=>exact Np.pure rfl
end
end
section
open _root_.PySem.SeqAt
section
variable {m:Am} {g:Gs} {st:St} {α:Type} {P:a9} {K:Frag} {mg mb:Str->Option Value} {ev:Expr->M V}
theorem DH{v:V}{rv:Value}{vs:Vs}(vv:m.VR g v rv):Np m g st (abb vs (agW rv)) (gh v st) fU:=Np.lN λb hb=>by
 rw[qe hb]at vv
 rw[show rv=.bool b from vv]
 exact Np.holding vV
theorem DI{v:V}{rv:Value}{vs:Vs}(vv:m.VR g v rv):Np m g st (abb vs (agW rv)) (truth v st) fU:=DH vv
theorem DJ{f:Expr->M Bool}(H:∀ e,dr m (agV e m.env (eval e m.env)) (f e) fU)(op:agU)(es:List Expr):∀ (g:Gs) (st:St),Np m g st (allTrue op es m.env) (ju f op es st) fU:=by
 induction es with
 |nil=>exactλg st=>Np.pure rfl
 |cons e es ih=>
  intro g st
  rw[arm_allTrue_cons]
  refine Np.bind (H e g st) λb st₁ g₁ b' e1 x hb=>?_
  rw[<-show b=b' from hb]
  have ih:=ih g₁ st₁
  cases op<;>cases b<;>first |exact Np.pure rfl |exact ih
theorem qM(G:aB m P K mg mb)(H:bf m ev)(n:Nat):∀ (e:Expr),dr m (agV e m.env (eval e m.env)) (gK ev n e) fU:=by
 induction n with
 |zero=>exactλ_ _ _=>Np.no
 |succ n ih=>
  intro e g st
  refine AA (motive:=λe w=>Np m g st (agV e m.env (eval e m.env)) (ug ev (gK ev n) e w st) fU) (λx p=>?_) (λop vs p=>?_) (λl ops rs p=>?_) (λ_ _ _ _=>Np.no) (λe he=>?_) e
  ·rw[arm_isTrue_UnaryOp]
   exact Np.bind (ih x g st) λb st₁ g₁ b' e1 x hb=>Np.pure (congrArg not hb)
  ·rw[arm_isTrue_BoolOp];exact DJ ih op vs g st
  ·rw[arm_isTrue_Compare]
   exact Np.aL λhl=>Np.bind (H.snd l g st) λa st₁ g₁ ra e1 x va=>DG G H p ops rs a ra g₁ st₁ (of_decide_eq_true hl) va
  ·rw[he]
   exact Np.bind (H.snd e g st) λv st₁ g₁ rv e1 x vv=>Np.standAt (DI vv)
theorem DK(H:bf m ev)(pos:Pos)(op:agU)(es:List Expr):∀ (g:Gs) (st:St),Np m g st (boolOp pos op (agP es m.env)) (nq ev op es st) m.VR:=by
 induction es with
 |nil=>exactλg st=>Np.no
 |cons e es ih=>
  intro g st
  cases es with
  |nil=>exact H.snd e g st
  |cons e2 es=>
   show Np m g st (do let v<-eval e m.env;acr pos;let t<-ace [v] (agW v);match op,t with | .And,false | .Or,true=>pure v |_,_=>boolOp pos op (agP (e2::es) m.env)) _ _
   refine Np.bind (H.snd e g st) λb st₁ g₁ rb e1 x vb=>Np.standAt (Np.gh λi hi=>?_)
   subst hi
   rw[show rb=.bool i from vb]
   refine qL ?_
   have ih:=ih g₁ st₁
   cases op<;>cases i<;>first |exact Np.pure (.bool _) |exact ih
end
end
section
open _root_.PySem.SeqAt
section
variable {m:Am} {g:Gs} {st:St} {α:Type} {P:a9} {K:Frag} {mg mb:Str->Option Value} {ev:Expr->M V}
theorem vY(H:bf m ev)(args:List Expr)(g:Gs)(st:St)(pos:Pos)(h:args.all notStar=true):Np m g st (aeg (ahK pos (ael args m.env))) (eQ ev args st) m.aA:=by
 rw[iP h,iQ]
 exact qG (λe=>H.snd e) args g st
theorem DL{vs:List V}{rs:Vs}(q:m.aA g vs rs)(hl:vs.length<=lim):Np m g st (aih rs) (alloc (.list vs) st) m.VR:=by
 refine(nJ (o:=.list vs) rfl (λs Q E R k=>?_) λg p ob h=>h).np
 exact wpAny_newList (k s.heap _ s.toks R rfl ⟨rs,0,rfl,q⟩) (q.length▸aah hl (by decide))
theorem DM{vs:List V}{rs:Vs}(q:m.aA g vs rs)(hl:vs.length<=lim):Np m g st (newTuple rs) (alloc (.tuple vs) st) m.VR:=by
 refine(nJ (o:=.tuple vs) rfl (λs Q E R k=>?_) λg p ob h=>h).np
 exact wpAny_newTuple (k s.heap _ s.toks R rfl ⟨rs,0,rfl,q⟩) (q.length▸aah hl (by decide))
theorem vZ(H:bf m ev)(o:Option Expr):Np m g st (aji (evalOpt o m.env)) (kj ev o st) (λ_ a b=>IsPart b a):=by
 cases o with
 |none=>exact Np.pure .none
 |some e=>
  unfold kj
  show Np m g st (eval e m.env) _ _
  have:=H.snd e g st
  intro s Q E R Pp
  refine this s Q E R ?_
  revert Pp
  show bW m g ((ev e>>=λv=>Lite.aX v>>=λi=>aak (some i)) st) _ Q E s->_
  cases he:ev e st with
  |ok v st₁=>
   rw[cb he]
   intro Pp g' h' tk b x R' q
   cases v with
   |int i=>
    obtain⟨t,rfl⟩:=q
    exact Pp g' h' tk _ x R' (.int i t)
   |_=>exact Pp.elim
  |exc c st₁=>rw[fV he];exactλPp=>Pp
  |no=>rw[eG he];exactλPp=>Pp.elim
end
end
section
open _root_.PySem.SeqAt
noncomputable abbrev Cx.at (c:Cx) (X:List (Addr×Obj)) (fs:List (Addr×(Str->Option Value))) (N:Addr):Cx:={c with X:=X,fs:=fs,N:=N}
section
variable {c:Cx} {X:List (Addr×Obj)} {fs:List (Addr×(Str->Option Value))} {N:Addr} {g:Gs}
theorem qN(ps:List (Addr×Addr))(H:Hp):dm (c.at X fs N) g ps H=dm c g ps H:=by
 induction ps generalizing H with
 |nil=>rfl
 |cons p ps ih=>
  cases H with
  |nil=>rfl
  |cons o os=>exact congrArg (dO c g p o++·) (ih os)
theorem lT{m':Str->Option Value}{L:Addr}{H:Hp}:cells (c.at c.X ((c.N,g.m)::c.fs) L) {g with m:=m'} H=(L,b9 m')::cells c g H:=by
 simp only[qc,qN]
 simp[cells,gp]
theorem jC{I:Addr}{ob:Obj}{H:Hp}:(cells (c.at ((I,ob)::c.X) c.fs c.N) g H).Perm ((I,(·=ob))::cells c g H):=by
 unfold cells
 rw[qN]
 unfold gp
 simp only[aaf,aaH,acV]
 exact(aaU _ acy).trans (aaS _ _ _)
variable {H:Hp} {h h':Heap}
theorem Inv.more{c':Cx}{g':Gs}{H':Hp}{x:Cell}(I:Inv c g H h)(p:(cells c' g' H').Perm (x::cells c g H))(hf:bc c g H x.1)(hx:∃ o,h'.get? x.1=some o∧x.2 o)(hk:∀ b o,h.get? b=some o->h'.get? b=some o)
  (hb:c'.b₀=c.b₀) (ha:c'.b₀.objs.size<=c'.N) (hl:g'.ρ.length=H'.length):Inv c' g' H' h':=by
 have k:=I.keeps hk
 have S:∀ y∈x::cells c g H,Sat h' y:=aas.mpr ⟨hx,k.sat⟩
 have W:∀ y∈x::cells c g H,c.b₀.get? y.1=none:=aas.mpr ⟨hf.2,I.low⟩
 refine⟨hb▸k.base,ha,hl,λy hy=>S y (p.mem_iff.mp hy),(p.map _).nodup_iff.mpr (aaI.mpr ⟨λq=>?_,I.dp⟩),λy hy=>hb▸W y (p.mem_iff.mp hy)⟩
 obtain⟨y,hy,e⟩:=aau.mp q
 exact hf.1 y hy e
theorem Inv.less{c':Cx}{g':Gs}{H':Hp}{x:Cell}(I:Inv c' g' H' h)(p:(cells c' g' H').Perm (x::cells c g H))(hb:c'.b₀=c.b₀)(ha:c.b₀.objs.size<=c.N)(hl:g.ρ.length=H.length):Inv c g H h:=by
 refine⟨hb▸I.base,ha,hl,λy hy=>I.sat y (p.mem_iff.mpr (.tail _ hy)),?_,λy hy=>hb▸I.low y (p.mem_iff.mpr (.tail _ hy))⟩
 have:=(p.map (·.1)).nodup_iff.mp I.dp
 rw[aaH]at this
 exact(aaI.mp this).2
theorem Inv.enter{m':Str->Option Value}{L:Addr}(I:Inv c g H h)(hf:h.get? L=none)(hk:∀ b o,h.get? b=some o->h'.get? b=some o)(hn:h'.Ns L m')(ha:c.b₀.objs.size<=L):Inv (c.at c.X ((c.N,g.m)::c.fs) L) {g with m:=m'} H h':=by
 obtain⟨o,es,ep,e,q⟩:=hn
 exact I.more (x:=(L,b9 m')) (by rw[lT]) (I.free hf) ⟨o,e,es,ep,q⟩ hk rfl ha I.len
theorem Inv.exit{m₀:Str->Option Value}{L:Addr}(I:Inv (c.at c.X ((c.N,m₀)::c.fs) L) g H h)(ha:c.b₀.objs.size<=c.N):Inv c {g with m:=m₀} H h:=
 I.less (x:=(L,b9 g.m)) (by
  have:=lT (c:=c) (g:={g with m:=m₀}) (m':=g.m) (L:=L) (H:=H)
  exact(List.Perm.of_eq this)) rfl ha I.len
theorem Inv.fW{I':Addr}{ob:Obj}(I:Inv (c.at ((I',ob)::c.X) c.fs c.N) g H h):Inv c g H h:=I.less jC rfl I.above I.len
theorem Inv.eI{I':Addr}{ob:Obj}(I:Inv (c.at ((I',ob)::c.X) c.fs c.N) g H h):h.get? I'=some ob:=by
 obtain⟨o,e,q⟩:=I.sat (I',(·=ob)) (jC.mem_iff.mpr (.head _))
 exact e.trans (congrArg some q)
theorem Inv.lU{I':Addr}{ob ob':Obj}(I:Inv (c.at ((I',ob)::c.X) c.fs c.N) g H h)(hs:∀ b o,b≠I'->h.get? b=some o->h'.get? b=some o)(ho:h'.get? I'=some ob'):Inv (c.at ((I',ob')::c.X) c.fs c.N) g H h':=by
 have e (o):cells (c.at ((I',o)::c.X) c.fs c.N) g H=((c.N,b9 g.m)::c.fs.map λf=>(f.1,b9 f.2))++(I',(·=o))::(c.X.map (λp=>(p.1,(·=p.2)))++dm c g g.ρ H):=by
  unfold cells
  rw[qN]
  unfold gp
  simp only[aaf,aaH,acV]
 have S:=e ob▸I.sat
 have W:=e ob▸I.low
 have N:=e ob▸I.dp
 have w:c.b₀.get? I'=none:=W (I',(·=ob)) (aac _ (.head _))
 exact⟨λb o q=>hs b o (λz=>nomatch (z▸w).symm.trans q) (I.base b o q),I.above,I.len,e ob'▸uH S N hs ho rfl,by rw[e ob',pZ (P:=(·=ob))];exact N,e ob'▸qa (y:=(I',(·=ob'))) W w⟩
theorem bc.add{a I':Addr}{ob:Obj}(F:bc c g H a)(ne:I'≠a):bc (c.at ((I',ob)::c.X) c.fs c.N) g H a:=
 ⟨λx hx=>(acB.mp (jC.mem_iff.mp hx)).elim (λe=>e▸ne) (F.1 x),F.2⟩
theorem Inv.jD{I':Addr}{ob:Obj}(I:Inv (c.at ((I',ob)::c.X) c.fs c.N) g H h):bc c g H I':=
 ⟨λx hx e=>(aaI.mp ((jC.map (·.1)).nodup_iff.mp I.dp)).1 (aau.mpr ⟨x,hx,e⟩),I.low (I',(·=ob)) (jC.mem_iff.mpr (.head _))⟩
theorem Inv.v5(I:Inv c g H h){P:Addr->Prop}(hf:∀ a,P a->bc c g H a)(k:∀ b o,¬ P b->h.get? b=some o->h'.get? b=some o):Inv c g H h':=by
 refine⟨λb o e=>k b o (λp=>nomatch (hf b p).2.symm.trans e) (I.base b o e),I.above,I.len,λx hx=>?_,I.dp,I.low⟩
 obtain⟨o,e,q⟩:=I.sat x hx
 exact⟨o,k _ _ (λp=>(hf _ p).1 x hx rfl) e,q⟩
end
end
section
open _root_.PySem.SeqAt
section
variable {c:Cx} {g:Gs} {H:Hp} {h h':Heap}
noncomputable def Cx.blocks (c:Cx):List Addr:=c.N::c.fs.map (·.1)
noncomputable def Bs (c:Cx) (g:Gs):List Cell:=(c.N,b9 g.m)::c.fs.map λf=>(f.1,b9 f.2)
noncomputable def v7 (c:Cx) (g:Gs) (H:Hp):List Cell:=c.X.map (λp=>(p.1,(·=p.2)))++dm c g g.ρ H
theorem v8:cells c g H=Bs c g++v7 c g H:=by
 unfold cells gp Bs v7
 simp only[aaf,acV]
theorem v9:(Bs c g).map (·.1)=c.blocks:=congrArg (abU _) abP
theorem wa:∀ x∈Bs c g,∃ m,x.2=b9 m:=aas.mpr ⟨⟨_,rfl⟩,ahz.mpr λ_ _=>⟨_,rfl⟩⟩
theorem Inv.block(I:Inv c g H h){a:Addr}(ha:a∈c.blocks):bT λx m=>cB (x∈cells c g H) (x.1=a) (x.2=b9 m) (h.Ns a m):=by
 rw[<-v9 (g:=g)]at ha
 obtain⟨x,hx,rfl⟩:=aau.mp ha
 obtain⟨m,hm⟩:=wa x hx
 have hc:x∈cells c g H:=v8▸aao _ hx
 obtain⟨o,e,q⟩:=I.sat x hc
 rw[hm]at q
 obtain⟨es,ep,q⟩:=q
 exact⟨x,m,hc,rfl,hm,o,es,ep,e,q⟩
theorem Inv.DN(I:Inv c g H h){a:Addr}(ha:a∈c.blocks):c.b₀.get? a=none:=by
 obtain⟨x,m,hx,rfl,_⟩:=I.block ha
 exact I.low x hx
theorem Inv.DO(I:Inv c g H h){x:Cell}(hx:x∈cells c g H)(hb:x.1∈c.blocks):∃ m,x.2=b9 m:=by
 have dp:=I.dp
 rw[v8]at hx dp
 rcases aav.mp hx with hx |hx
 ·exact wa x hx
 ·rw[aaq,v9]at dp
  exact absurd rfl ((aaW.mp dp).2.2 _ hb _ (abp hx))
theorem Inv.slots{hid:List Addr}(I:Inv c g H h)(k:∀ b o,h.get? b=some o->b ∉ c.blocks->b ∉ hid->h'.get? b=some o)(u:h.UpToSlots h')(hf:∀ a∈hid,bc c g H a):Inv c g H h':=by
 refine⟨λb o e=>k b o (I.base b o e) (λq=>nomatch (I.DN q).symm.trans e) (λq=>nomatch (hf b q).2.symm.trans e),I.above,I.len,λx hx=>?_,I.dp,I.low⟩
 obtain⟨o,e,q⟩:=I.sat x hx
 by_cases hb:x.1∈c.blocks
 ·obtain⟨m,hm⟩:=I.DO hx hb
  rw[hm]at q ⊢
  obtain⟨es,ep,hd,q⟩:=q
  obtain⟨sl,e'⟩:=u x.1 o e λvs z=>agb (hd.symm.trans z)
  exact⟨_,e',es,ep,hd,q⟩
 ·exact⟨o,k _ _ e hb λq=>(hf _ q).1 x hx rfl,q⟩
end
section
variable {m:Am} {g:Gs} {st:St} {M:Model} {E:Value->Sh} {s:aaC}
theorem bE.DP(O:bE m)(I:Inv m.c g st.H s.heap){B:Heap}(hB:∀ b∈m.c.blocks,B.get? b=none):s.heap.FunFrames B (m.cZ::m.outer):=by
 have fk:=O.fk
 generalize m.cZ::m.outer=l at fk
 induction l with
 |nil=>exact trivial
 |cons e r ih=>
  obtain⟨hk,a,ha,hm⟩:=fk e (.head _)
  obtain⟨x,mm,_,_,_,o,es,ep,h1,h2,_⟩:=I.block hm
  exact⟨by rw[hk];decide,⟨a,o,ha,hB a hm,h1,λvs q=>agb (h2.symm.trans q)⟩,ih λe he=>fk e (.tail _ he)⟩
theorem Rel.after{B h':Heap}{hid:List Addr}(R:Rel m g st s.heap)(hB:B=aeG s.heap (m.c.blocks++hid))(hf:∀ a∈hid,bc m.c g st.H a)(k:B.StaysIn h')(u:s.heap.UpToSlots h'):Rel m g st h':=
 ⟨R.inv.slots (hid:=hid) (λb o e h1 h2=>k b o (by rw[hB];exact hideAll_get _ e λq=>(aav.mp q).elim h1 h2)) u hf,R.loc⟩
theorem DQ{B h':Heap}{hid:List Addr}{e k:Addr}{a0 fl:Value}(R:Rel m g st s.heap)(hB:B=aeG s.heap (m.c.blocks++hid))(fe:bc m.c g st.H e)(R':Rel m g st h')
  (hT:∀ T oT ts,h'.get? T=some oT->oT.data=.fields ts->B.get? T=none->bc m.c g st.H T) (t:h'.TracedAtW B e (.ref k) a0 fl):eF m.c g st.H h' e k (some fl):=by
 obtain⟨oe,vs,T,oT,ts,he,⟨hc,h0⟩,hd,h1,hn,hTe,hoT,hdT,h3⟩:=t
 exact⟨oe,vs,a0,⟨fe,he,hc,hd,h0⟩,T,oT,ts,h1,hT _ _ _ hoT hdT hn,hTe,hoT,hdT,h3⟩
theorem DR{B h':Heap}{hid:List Addr}{T:Addr}{oT:Obj}{ts:Array Value}(R:Rel m g st s.heap)(hB:B=aeG s.heap (m.c.blocks++hid))(hf:∀ a∈hid,bc m.c g st.H a)(R':Rel m g st h')
  (ho:h'.get? T=some oT) (hd:oT.data=.fields ts) (hn:B.get? T=none):bc m.c g st.H T:=by
 have notB:T ∉ m.c.blocks:=λhb=>by
  obtain⟨x,mm,_,_,_,o,es,ep,h1,h2,_⟩:=R'.inv.block hb
  rw[ho]at h1
  rw[<-aae.inj h1,hd]at h2
  exact agb h2
 by_cases hh:T∈hid
 ·exact hf T hh
 ·have none:s.heap.get? T=none:=by
   cases q:s.heap.get? T with
   |none=>rfl
   |some o=>
    have:=hideAll_get (m.c.blocks++hid) q λz=>(aav.mp z).elim notB hh
    rw[<-hB,hn]at this;contradiction
  exact R.inv.free none
theorem wc{B h':Heap}{hid:List Addr}{e k:Addr}{a0:Value}{Q:Unit->Sh}(R:Rel m g st s.heap)(hB:B=aeG s.heap (m.c.blocks++hid))(fe:bc m.c g st.H e)(hf:∀ a∈hid,bc m.c g st.H a)(k1:B.StaysIn h')(k4:s.heap.UpToSlots h')(k3:h'.TracedAtW B e (.ref k) a0 (adF m.L))
  (hQ:∀ h',Rel m g st h'->eF m.c g st.H h' e k (some (adF m.L))->Q () {s with heap:=h'}):Q () {s with heap:=h'}:=
 have R':=R.after hB hf k1 k4
 hQ h' R' (DQ R hB fe R' (λ_ _ _ a b d=>DR R hB hf R' a b d) k3)
theorem qO{hid:List Addr}{a:Addr}(h:a∈hid):(aeG s.heap (m.c.blocks++hid)).get? a=none:=aiG _ (aac _ h)
theorem wd(O:bE m)(R:Rel m g st s.heap)(hid:List Addr):s.heap.FunFrames (aeG s.heap (m.c.blocks++hid)) (m.cZ::m.outer):=O.DP R.inv λb hb=>aiG _ (aao _ hb)
theorem qP(O:bE m)(hm:m.env=m.cZ){e k:Addr}{Q:Unit->Sh}(R:Rel m g st s.heap)(X:ExcAt m.c g st.H s.heap m.L e k)
  (hQ:∀ h',Rel m g st h'->eF m.c g st.H h' e k (some (adF m.L))->Q () {s with heap:=h'}):wpAny M m.A (adH (.ref e) m.env) Q E s:=by
 obtain⟨fl,hfl,oe,vs,a0,⟨fe,he,hc,hd,h0⟩,hx⟩:=X
 rcases hfl with rfl |rfl |rfl
 ·-- no traceback yet
  have hf:∀ a∈[e],bc m.c g st.H a:=aas.mpr ⟨fe,λ_ q=>nomatch q⟩
  have stay:(aeG s.heap (m.c.blocks++[e])).StaysIn s.heap:=λb o q=>of_hideAll _ q
  have ff:=wd O R [e]
  have eB:=qO (s:=s) (m:=m) (hid:=[e]) (.head _)
  generalize hB:aeG s.heap (m.c.blocks++[e])=B at stay ff eB
  unfold adH
  rw[O.fe]
  refine wpAny_bind (acz he hd hx ?_)
  dsimp only[cq,bZ]
  rw[if_neg (by decide)]
  rw[hm]
  refine wpAny_entryW O.frames ff O.ff he stay eB hd (agt.mp hx).1 h0 λh' N=>?_
  obtain⟨k1,k2,k3,k4⟩:=N
  exact wc R hB.symm fe hf k1 k4 (hc▸k3) hQ
 ·obtain⟨T,oT,ts,h1,fT,hTe,hoT,hdT,h3⟩:=hx
  have hf:∀ a∈[e,T],bc m.c g st.H a:=aas.mpr ⟨fe,aas.mpr ⟨fT,λ_ q=>nomatch q⟩⟩
  have stay:(aeG s.heap (m.c.blocks++[e,T])).StaysIn s.heap:=λb o q=>of_hideAll _ q
  have ff:=wd O R [e,T]
  have eB:=qO (s:=s) (m:=m) (hid:=[e,T]) (.head _)
  have TB:=qO (s:=s) (m:=m) (hid:=[e,T]) (.tail _ (.head _))
  generalize hB:aeG s.heap (m.c.blocks++[e,T])=B at stay ff eB TB
  rw[hm]
  refine wpAny_noteFrame_onW O.frames ff O.ff ⟨oe,vs,T,oT,ts,he,⟨hc,h0⟩,hd,h1,TB,hTe,hoT,hdT,h3⟩ stay eB λh' N=>?_
  obtain⟨k1,k2,k3,k4⟩:=N
  exact wc R hB.symm fe hf k1 k4 k3 hQ
 ·obtain⟨T,oT,ts,h1,fT,hTe,hoT,hdT,h3⟩:=hx
  have TB:(aeG s.heap [T]).get? T=none:=aiG _ (.head _)
  exact wpAny_noteFrame_againW (base:=aeG s.heap [T]) O.fe ⟨oe,vs,T,oT,ts,he,⟨hc,h0⟩,hd,h1,TB,hTe,hoT,hdT,h3⟩ (hQ s.heap R ⟨oe,vs,a0,⟨fe,he,hc,hd,h0⟩,T,oT,ts,h1,fT,hTe,hoT,hdT,h3⟩)
theorem nR{e k:Addr}{fl:Value}{fr:Option Addr}{Q:Unit->Sh}(R:Rel m g st s.heap)(X:eF m.c g st.H s.heap e k (some fl))
  (hQ:∀ h',Rel m g st h'->eF m.c g st.H h' e k (some (fr.elim .none λf=>adF f))->Q () {s with heap:=h'}):wpAny M m.A (afs (.ref e) fr) Q E s:=by
 obtain⟨oe,vs,a0,⟨fe,he,hc,hd,h0⟩,T,oT,ts,h1,fT,hTe,hoT,hdT,h3⟩:=X
 have hsz3:3<ts.size:=(agt.mp h3).1
 have other:∀ b,b≠T->(s.heap.update T (ajC (·.setIfInBounds 3 (fr.elim .none λf=>adF f)))).get? b=s.heap.get? b:=λb hb=>adB _ _ (acm hb)
 unfold afs
 refine wpAny_bind (acz he hd h1 ?_)
 dsimp only[cq,bZ]
 rw[if_pos (show(adW T != abo)=true from by simp)]
 refine afM hoT hdT hsz3 (hQ _ ⟨?_,R.loc⟩ ?_)
 ·exact R.inv.slots (hid:=[T]) (λb o q _ h2=>(other b λz=>h2 (by rw[z];exact .head _)).trans q)
   (λb o q hn=>⟨o.slots,(other b λz=>hn ts (aae.inj (hoT.symm.trans (z▸q))▸hdT)).trans q⟩) (aas.mpr ⟨fT,λ_ q=>nomatch q⟩)
 ·exact⟨oe,vs,a0,⟨fe,(other e (acm hTe)).trans he,hc,hd,h0⟩,T,_,_,h1,fT,hTe,abO _ hoT (Obj.isFreed_of_fields (ais hdT _)),ais hdT _,by simp[hsz3]⟩
end
end
section
open _root_.PySem.SeqAt
def aT(m:Am)(g:Gs)(a:Fl)(b:Flow):Prop:=Fl.casesOn (motive:=λ_=>Prop) a (b=.next) λv=>∃ r,b=.ret r∧m.VR g v r
theorem aT.next{m:Am}{g:Gs}:aT m g .next .next:=rfl
theorem aT.ret{m:Am}{g:Gs}{v:V}{r:Value}(h:m.VR g v r):aT m g (.ret v) (.ret r):=⟨r,rfl,h⟩
def iR{α β:Type}(m:Am)(g:Gs)(r:R α)(rel:Gs->α->β->Prop)(Q:β->Sh)(E:Value->Sh)(s:aaC):Prop:=match r with
 | .ok a st'=>∀ g' h' tk b,Ext g g'->Rel m g' st' h'->rel g' a b->Q b {s with heap:=h',toks:=tk}
 | .exc k st'=>∀ g' h' tk e,Ext g g'->Rel m g' st' h'->eF m.c g' st'.H h' e k (some (adF m.L))->E (.ref e) {s with heap:=h',toks:=tk}
 | .no=>False
def RV(m:Am)(g:Gs)(st:St)(c:Code)(r:R Fl):Prop:=
 ∀ (s:aaC) (Q:Flow->Sh) (E:Value->Sh),Rel m g st s.heap->iR m g r (aT m) Q E s->
  codeN (model m.c.prog m.c.w) m.A c (λres s'=>match res with | .ok f=>Q f s' | .error e=>E e s') s
section
variable {α β γ δ:Type} {m:Am} {g:Gs} {st:St}
theorem Np.use{t:Sem β}{r:R α}{rel:Gs->α->β->Prop}(h:Np m g st t r rel){s:aaC}{Q:β->Sh}{E:Value->Sh}(R₀:Rel m g st s.heap)
  (hok:∀ a st',r=.ok a st'->∀ g' h' tk b,Ext g g'->Rel m g' st' h'->rel g' a b->Q b {s with heap:=h',toks:=tk})
  (hexc:∀ k st',r=.exc k st'->∀ g' h' tk e,Ext g g'->Rel m g' st' h'->ExcAt m.c g' st'.H h' m.L e k->E (.ref e) {s with heap:=h',toks:=tk})
  (hno:r≠.no):ao (model m.c.prog m.c.w) m.A t Q E s:=h s Q E R₀ (by
 cases r with
 |ok a st'=>exact hok a st' rfl
 |exc k st'=>exact hexc k st' rfl
 |no=>exact absurd rfl hno)
theorem iR.shift{r:R α}{rel:Gs->α->β->Prop}{Q:β->Sh}{E:Value->Sh}{s:aaC}{g₁:Gs}(x:Ext g g₁){h:Heap}{tk:Tok}
  (P:iR m g r rel Q E s):iR m g₁ r rel Q E {s with heap:=h,toks:=tk}:=by
 cases r with
 |ok a st'=>exactλg' h' tk' b e R q=>P g' h' tk' b (x.trans e) R q
 |exc k st'=>exactλg' h' tk' b e R q=>P g' h' tk' b (x.trans e) R q
 |no=>exact P.elim
def nS(m:Am)(E:Value->Sh):Value->Sh:=λx s'=>ao (model m.c.prog m.c.w) m.A (do adH x m.env;adh x) (λ_ s''=>E x s'') E s'
theorem nS.of(O:bE m)(hm:m.env=m.cZ){E:Value->Sh}{s:aaC}{st':St}{k e:Addr}{h':Heap}{tk:Tok}(R:Rel m g st' h')(X:ExcAt m.c g st'.H h' m.L e k)
  (P:∀ h',Rel m g st' h'->eF m.c g st'.H h' e k (some (adF m.L))->E (.ref e) {s with heap:=h',toks:=tk}):nS m E (.ref e) {s with heap:=h',toks:=tk}:=
 bt (wpAny_bind (qP (s:={s with heap:=h',toks:=tk}) O hm R X λh'' R' X'=>wpAny_theTreesLotGoes (P h'' R' X')))
theorem qQ(O:bE m){c:Code}{r:R Fl}{s:aaC}{Q:Flow->Sh}{E:Value->Sh}(P:bW m g r (aT m) Q E s)
  (h:∀ E',iR m g r (aT m) Q E' s->codeN (model m.c.prog m.c.w) m.A c (λres s'=>match res with | .ok f=>Q f s' | .error e=>E' e s') s):ao (model m.c.prog m.c.w) m.A (agm c m.env) Q E s:=by
 unfold agm
 refine gG (pe (gc (h (λx s'=>ao (model m.c.prog m.c.w) m.A (do
   if (<-field x 1)==.none then ajd "frame.own-activation:exception-without-traceback"
   afs x m.env.frame) (λ_ s''=>E x s'') E s') ?_) λres s' q=>?_) nofun)
 ·cases r with
  |ok a st'=>exact P
  |exc k st'=>
   intro g' h' tk e x R' X
   have X':=X
   obtain⟨oe,vs,a0,⟨fe,he,hc,hd,h0⟩,T,oT,ts,h1,fT,hTe,hoT,hdT,h3⟩:=X'
   refine bt (wpAny_bind (acz he hd h1 ?_))
   dsimp only[cq,bZ]
   rw[if_neg (show ¬ ((adW T==abo)=true) from abe)]
   rw[O.fe]
   exact nR (s:={s with heap:=h',toks:=tk}) (fr:=some m.L) R' X λh'' R'' X''=>P g' h'' tk e x R'' ⟨_,.inr (.inr rfl),X''⟩
  |no=>exact P.elim
 ·cases res with
  |ok f=>exact q
  |error e=>exact q
end
end
section
open _root_.PySem.SeqAt
noncomputable abbrev Am.x (m:Am) (os:List (Addr×Obj)):Am:={m with c:=m.c.at (os++m.c.X) m.c.fs m.c.N}
section
variable {c:Cx} {g:Gs} {H:Hp} {h h':Heap} {os:List (Addr×Obj)}
theorem we:(cells (c.at (os++c.X) c.fs c.N) g H).Perm (os.map (λp=>(p.1,(·=p.2)))++cells c g H):=by
 induction os with
 |nil=>exact ahA _
 |cons p r ih=>
  have:=jC (c:=c.at (r++c.X) c.fs c.N) (g:=g) (H:=H) (I:=p.1) (ob:=p.2)
  exact this.trans (aaU _ ih)
theorem Inv.DS(I:Inv (c.at (os++c.X) c.fs c.N) g H h):Inv c g H h:=by
 induction os with
 |nil=>exact I
 |cons p r ih=>exact ih (Inv.fW (c:=c.at (r++c.X) c.fs c.N) I)
theorem bc.drop{a:Addr}(F:bc (c.at (os++c.X) c.fs c.N) g H a):bc c g H a:=
 ⟨λx hx=>F.1 x (we.mem_iff.mpr (aac _ hx)),F.2⟩
theorem qR{X:List (Addr×Obj)}{fs:List (Addr×(Str->Option Value))}{N:Addr}{sc:Scope}{env:Env}{lo:Lo}(l:Loc c sc env g lo):Loc (c.at X fs N) sc env g lo:=⟨l.len,l.loc,l.cx⟩
theorem nT{X:List (Addr×Obj)}{fs:List (Addr×(Str->Option Value))}{N:Addr}{sc:Scope}{env:Env}{lo:Lo}(l:Loc (c.at X fs N) sc env g lo):Loc c sc env g lo:=⟨l.len,l.loc,l.cx⟩
theorem eF.drop{e k:Addr}{fl:Option Value}(X:eF (c.at (os++c.X) c.fs c.N) g H h e k fl):eF c g H h e k fl:=by
 obtain⟨oe,vs,a0,I,h⟩:=X
 refine⟨oe,vs,a0,⟨I.free.drop,I.get,I.cls,I.data,I.zero⟩,?_⟩
 cases fl with
 |none=>exact h
 |some v=>
  obtain⟨T,oT,ts,J⟩:=h
  exact⟨T,oT,ts,J.one,J.free.drop,J.ne,J.get,J.data,J.three⟩
theorem ExcAt.drop{L e k:Addr}(X:ExcAt (c.at (os++c.X) c.fs c.N) g H h L e k):ExcAt c g H h L e k:=by
 obtain⟨fl,h1,h2⟩:=X
 exact⟨fl,h1,h2.drop⟩
end
section
variable {m:Am} {g:Gs} {st:St} {os:List (Addr×Obj)} {P:a9} {K:Frag} {mg mb:Str->Option Value}
theorem Rel.fW{h:Heap}(R:Rel (m.x os) g st h):Rel m g st h:=⟨R.inv.DS,nT R.loc⟩
theorem bE.x(O:bE m):bE (m.x os):=⟨⟨O.env.kind,O.env.loc,O.env.cx,O.env.qj,O.env.locals,O.env.globals,O.env.builtins,O.env.nd,O.env.nb⟩,O.frames,O.ff,O.fe,O.fk,O.dep,O.hV,O.df,O.fR⟩
theorem kA.at{c:Cx}{X:List (Addr×Obj)}{fs:List (Addr×(Str->Option Value))}{N:Addr}(G:kA c P mg mb):kA (c.at X fs N) P mg mb:=⟨G.g,G.b,G.all⟩
theorem cO.at{c:Cx}{X:List (Addr×Obj)}{fs:List (Addr×(Str->Option Value))}{N:Addr}(Q:cO c P K mg mb):cO (c.at X fs N) P K mg mb:=
 ⟨Q.KX,Q.lim,Q.T,Q.nd,Q.glob.at,Q.fld,Q.eqs,Q.e7⟩
theorem aB.x(G:aB m P K mg mb):aB (m.x os) P K mg mb:=⟨G.O.x,G.PK.at,G.sys⟩
structure Walk(m:Am)(g₀:Gs)(tgt:Expr)(itv:Value)(draw:V->M V)(bB:M Unit)(W:List (Addr×Obj)->List V->Prop):Prop where
 next:∀ (g:Gs) (os:List (Addr×Obj)) (v:V) (vs:List V) (st st₁:St) (x:V) (s:aaC) (Q:Value->Sh) (E E':Value->Sh),Ext g₀ g->W os (v::vs)->Rel (m.x os) g st s.heap->
  bB st=.ok () st->draw v st=.ok x st₁->
  (∀ g' h' tk b os',Ext g g'->W os' vs->Rel (m.x os') g' st₁ h'->m.VR g' x b->Q b {s with heap:=h',toks:=tk})->
  wpAny (model m.c.prog m.c.w) m.A (ahM itv) (λr s₁=>∃ b,r=some b∧wpAny (model m.c.prog m.c.w) m.A (acA tgt itv b) (λ_=>Q b) E' s₁) E s
 fin:∀ (g:Gs) (os:List (Addr×Obj)) (st:St) (s:aaC) (Q:Option Value->Sh) (E:Value->Sh),Ext g₀ g->W os []->Rel (m.x os) g st s.heap->bB st=.ok () st->
  (∀ h',Rel m g st h'->Q none {s with heap:=h'})->wpAny (model m.c.prog m.c.w) m.A (ahM itv) Q E s
 calm:∀ st,bB st=.ok () st∨bB st=.no
 quiet:∀ v st,(∃ x st₁,draw v st=.ok x st₁)∨draw v st=.no
theorem Walk.turn{β:Type}{g₀:Gs}{tgt:Expr}{itv:Value}{draw:V->M V}{bB:M Unit}{W:List (Addr×Obj)->List V->Prop}(w:Walk m g₀ tgt itv draw bB W)
  {os:List (Addr×Obj)} {v:V} {vs:List V} {st₁:St} {x:V} {s:aaC} {Q:β->Sh} {E:Value->Sh} {hh:Value->Sem Unit} {n:Sem β} {k:Value->Sem β}
  (x₀:Ext g₀ g) (hW:W os (v::vs)) (R:Rel (m.x os) g st s.heap) (hc:bB st=.ok () st) (hd:draw v st=.ok x st₁)
  (h:∀ g' h' tk b os',Ext g g'->W os' vs->Rel (m.x os') g' st₁ h'->m.VR g' x b->ao (model m.c.prog m.c.w) m.A (k b) Q E {s with heap:=h',toks:=tk}):
  ao (model m.c.prog m.c.w) m.A ((ahM itv).onRaise hh>>=λr=>match r with |none=>n |some v=>acA tgt itv v>>=λ_=>k v) Q E s:=by
 refine aC (wpAny_onRaise (agB (w.next g os v vs st st₁ x s (λb s₁=>ao (model m.c.prog m.c.w) m.A (k b) Q E s₁) (λ_ _=>False) E x₀ hW R hc hd h) (λr s₁ h₁=>?_) λ_ _ z=>z.elim))
 obtain⟨b,rfl,h₁⟩:=h₁
 exact aC h₁
def stepK{α:Type}(bB:M Unit)(turn:V->M (Option α))(xs:List V)(r:Option α):M (Option α):=if r.isSome then pure r else loop bB turn xs
theorem nU{α:Type}{bB:M Unit}{turn:V->M (Option α)}{x:V}{xs:List V}:loop bB turn (x::xs)=(bB>>=λ_=>turn x>>=stepK bB turn xs):=rfl
theorem qS{g₀:Gs}{tgt:Expr}{itv:Value}{draw:V->M V}{bB:M Unit}{W:List (Addr×Obj)->List V->Prop}{body:List Stmt}{tgt':V->M Unit}{body':M Fl}(O:bE m)(hm:m.env=m.cZ)
  (w:Walk m g₀ tgt itv draw bB W)
  (ht:∀ os g st x rx,m.VR g x rx->Np (m.x os) g st (acL tgt m.env rx) (tgt' x st) ct)
  (hb:∀ os,dr (m.x os) (execs body m.env) body' (aT (m.x os))) (vs:List V):
  ∀ (g:Gs) (os:List (Addr×Obj)) (st:St) (s:aaC) (Q:Flow->Sh) (E:Value->Sh),Ext g₀ g->W os vs->Rel (m.x os) g st s.heap->
   iR m g ((loop bB (λv=>draw v>>=eA tgt' (body'>>=eR)) vs>>=eD) st) (aT m) Q E s->
   codeN (model m.c.prog m.c.w) m.A (.forLoop tgt itv body [] m.env) (λres s'=>match res with | .ok f=>Q f s' | .error e=>E e s') s:=by
 induction vs with
 |nil=>
  intro g os st s Q E x₀ hW R Pp
  refine fy ?_ rfl
  show ao _ m.A ((forTurn tgt itv body [] m.env).onRaise (λx=>do adH x m.env;adh x)) _ _ s
  refine gG ?_
  unfold forTurn
  replace Pp:iR m g (((bB>>=λ_=>aak none)>>=eD) st) (aT m) Q E s:=Pp
  rw[M.bind_assoc]at Pp
  rcases w.calm st with hc |hc
  ·rw[cb hc]at Pp
   refine cV (aC (wpAny_onRaise (w.fin g os st s _ _ x₀ hW R hc λh' R'=>?_)))
   exact aK ⟨rfl,pd (codeAny_block (wpAny_execs_nil (Pp g h' s.toks .next (.refl g) R' .next)))⟩
  ·rw[eG hc]at Pp;exact Pp.elim
 |cons v vs ih=>
  intro g os st s Q E x₀ hW R Pp
  refine fy ?_ rfl
  show ao _ m.A ((forTurn tgt itv body [] m.env).onRaise (λx=>do adH x m.env;adh x)) _ _ s
  refine gG ?_
  unfold forTurn
  have en:∀ {st₁ x},bB st=.ok () st->draw v st=.ok x st₁->(loop bB (λv=>draw v>>=eA tgt' (body'>>=eR)) (v::vs)>>=eD) st=(tgt' x>>=λ_=>body'>>=λr=>eR r>>=λr=>stepK bB (λv=>draw v>>=eA tgt' (body'>>=eR)) vs r>>=eD) st₁:=λhc hd=>by
   rw[nU,M.bind_assoc,cb hc,M.bind_assoc,M.bind_assoc,cb hd]
   unfold eA
   simp only[M.bind_assoc]
  rcases w.calm st with hc |hc
  ·rcases w.quiet v st with ⟨x,st₁,hd⟩ |hd
   ·rw[en hc hd]at Pp
    clear en
    generalize hL:stepK bB (λv=>draw v>>=eA tgt' (body'>>=eR)) vs=L at Pp
    refine cV (w.turn x₀ hW R hc hd λg₁ h₁ tk1 b os1 x₁ hW1 R₁ hx=>?_)
    refine az ((ht os1 g₁ st₁ x b hx).use (s:={s with heap:=h₁,toks:=tk1}) R₁ (λu st2 e2 g₂ h₂ tk2 u' x₂ R₂ _=>?_) (λk st2 e2 g₂ h₂ tk2 e x₂ R₂ X=>?_) λe2=>?_)
    ·rw[cb e2]at Pp
     refine az ((hb os1 g₂ st2).use (s:={s with heap:=h₂,toks:=tk2}) R₂ (λfl st3 e3 g₃ h₃ tk₃ fl' x₃ R₃ q₃=>?_) (λk st3 e3 g₃ h₃ tk₃ e x₃ R₃ X=>?_) λe3=>?_)
     ·rw[cb e3]at Pp
      have x03:Ext g g₃:=x₁.trans (x₂.trans x₃)
      cases fl with
      |next=>
       rw[show fl'=.next from q₃]
       subst hL
       exact aK ⟨rfl,ih g₃ os1 st3 {s with heap:=h₃,toks:=tk₃} Q E (x₀.trans x03) hW1 R₃ (iR.shift x03 Pp)⟩
      |ret v=>
       obtain⟨r,rfl,hv⟩:=q₃
       subst hL
       exact aK (Pp g₃ h₃ tk₃ _ x03 R₃.fW (.ret hv))
     ·rw[fV e3]at Pp
      exact nS.of (s:=s) O hm R₃.fW X.drop λh' R' X'=>Pp g₃ h' tk₃ e (x₁.trans (x₂.trans x₃)) R' X'
     ·rw[eG e3]at Pp;exact Pp.elim
    ·rw[fV e2]at Pp
     exact nS.of (s:=s) O hm R₂.fW X.drop λh' R' X'=>Pp g₂ h' tk2 e (x₁.trans x₂) R' X'
    ·rw[eG e2]at Pp;exact Pp.elim
   ·rw[nU,M.bind_assoc,cb hc,M.bind_assoc,M.bind_assoc,eG hd]at Pp;exact Pp.elim
  ·rw[nU,M.bind_assoc,eG hc]at Pp;exact Pp.elim
end
end
section
open _root_.PySem.SeqAt
section
variable {m:Am} {g g₀:Gs} {st:St} {os:List (Addr×Obj)} {h h':Heap}
theorem Rel.eI{I:Addr}{ob:Obj}(R:Rel (m.x ((I,ob)::os)) g st h):h.get? I=some ob:=Inv.eI (c:=m.c.at (os++m.c.X) m.c.fs m.c.N) R.inv
theorem Rel.lU{I:Addr}{ob ob':Obj}(R:Rel (m.x ((I,ob)::os)) g st h)(hs:∀ b o,b≠I->h.get? b=some o->h'.get? b=some o)(ho:h'.get? I=some ob'):Rel (m.x ((I,ob')::os)) g st h':=
 ⟨Inv.lU (c:=m.c.at (os++m.c.X) m.c.fs m.c.N) R.inv hs ho,qR (nT R.loc)⟩
theorem Rel.lW{I:Addr}{ob:Obj}(R:Rel (m.x os) g st h)(hf:bc (m.x os).c g st.H I)(ho:h.get? I=some ob):Rel (m.x ((I,ob)::os)) g st h:=
 ⟨Inv.more (c:=m.c.at (os++m.c.X) m.c.fs m.c.N) (x:=(I,(·=ob))) R.inv (jC (c:=m.c.at (os++m.c.X) m.c.fs m.c.N)) hf ⟨ob,ho,rfl⟩ (λ_ _ e=>e) rfl R.inv.above R.inv.len,qR (nT R.loc)⟩
theorem Rel.iS{I:Addr}{ob:Obj}(R:Rel (m.x os) g st h)(hf:h.get? I=none)(hk:∀ b o,h.get? b=some o->h'.get? b=some o)(ho:h'.get? I=some ob):Rel (m.x ((I,ob)::os)) g st h':=(R.keeps hk).lW (R.inv.free hf) ho
theorem Rel.jD{I:Addr}{ob:Obj}(R:Rel (m.x ((I,ob)::os)) g st h):bc (m.x os).c g st.H I:=Inv.jD (c:=m.c.at (os++m.c.X) m.c.fs m.c.N) R.inv
theorem bc.iS{I a:Addr}{ob:Obj}{H:Hp}(F:bc (m.x os).c g H a)(ne:I≠a):bc (m.x ((I,ob)::os)).c g H a:=bc.add (c:=m.c.at (os++m.c.X) m.c.fs m.c.N) F ne
theorem Rel.ia{I:Addr}{ob:Obj}(R:Rel (m.x ((I,ob)::os)) g st h):Rel (m.x os) g st h:=⟨Inv.fW (c:=m.c.at (os++m.c.X) m.c.fs m.c.N) R.inv,qR (nT R.loc)⟩
theorem Rel.x0(R:Rel m g st h):Rel (m.x []) g st h:=⟨R.inv,R.loc⟩
theorem Rel.of0(R:Rel (m.x []) g st h):Rel m g st h:=⟨R.inv,R.loc⟩
theorem Rel.lX{I:Addr}{ob:Obj}(R:Rel (m.x ((I,ob)::os)) g st h)(hs:ake I h h'):Rel (m.x os) g st h':=
 ⟨R.ia.inv.v5 (P:=(·=I)) (λ_ e=>e▸R.jD) (λb o n e=>hs b o n e),R.ia.loc⟩
theorem DT(o:Option (Nat×List V)):Still (bI o):=by
 cases o with
 |none=>exact .pure _
 |some p=>exact(Still.dy _ _).bind λ_=>fD _
theorem DU{α:Type}{a b:α}{d:Decidable (a=b)}{st st':St}{r:Unit}(h:Lite.guard (@decide (a=b) d) st=.ok r st'):a=b:=of_decide_eq_true (hU h)
theorem nV{a:Nat}{xs:List V}(e:bI (some (a,xs)) st=.ok () st):st.H[a]? =some (.list xs):=by
 obtain⟨ys,h1,h2⟩:=(Still.dy _ _).inv e
 obtain⟨o,ho,hF⟩:=uO h1
 rw[show st.H[a]? =some o from ho,ku hF,show ys=xs from DU h2]
theorem nW(o:Option (Nat×List V))(st:St):bI o st=.ok () st∨bI o st=.no:=(DT o st).imp (λh=>by obtain⟨_,e⟩:=h;exact e) id
theorem qT:∀ (v:V) (st:St),(∃ x st₁,(pure v:M V) st=.ok x st₁)∨(pure v:M V) st=.no:=λv st=>.inl ⟨v,st,rfl⟩
theorem Rel.list{a:Nat}{l y:Addr}{xs:List V}(R:Rel m g st h)(hp:g.ρ[a]? =some (l,y))(ho:st.H[a]? =some (.list xs)):∃ vs n,h.get? l=some {cls:=.type "list",data:=.seq vs.toArray n}∧m.aA g xs vs:=by
 obtain⟨ob,h1,vs,n,h2,h3⟩:=R.inv.obj hp ho
 subst h2
 exact⟨vs,n,h1,h3⟩
theorem Rel.isList{a:Nat}{l y:Addr}{xs:List V}(R:Rel m g st h)(hp:g.ρ[a]? =some (l,y))(ho:st.H[a]? =some (.list xs)):∃ vs,h.IsList l vs.toArray∧m.aA g xs vs:=by
 obtain⟨vs,n,h1,h3⟩:=R.list hp ho
 exact⟨vs,⟨_,h1,rfl,n,rfl⟩,h3⟩
theorem aQ.at{α β:Type}{R:α->β->Prop}{xs:List α}{ys:List β}(q:aQ R xs ys){i:Nat}{x:α}(e:xs[i]? =some x):∃ y,ys[i]? =some y∧R x y:=aQ.get q e
theorem aQ.wg{α β:Type}{R:α->β->Prop}{xs:List α}{ys:List β}(q:aQ R xs ys){i:Nat}(e:xs[i]? =none):ys[i]? =none:=adi.mpr (q.length▸adi.mp e)
theorem drop_cons{α:Type}{xs:List α}{i:Nat}{v:α}{vs:List α}(e:v::vs=xs.drop i):xs[i]? =some v∧vs=xs.drop (i+1):=by
 have h1:(xs.drop i)[0]? =some v:=by rw[<-e];rfl
 rw[List.getElem?_drop]at h1
 refine⟨by simpa using h1,?_⟩
 have:(xs.drop i).drop 1=vs:=by rw[<-e];rfl
 simp only[<-this,List.drop_drop]
theorem drop_nil{α:Type}{xs:List α}{i:Nat}(e:[]=xs.drop i):xs[i]? =none:=by
 rw[adi];exact abW.mp e.symm
theorem DV{it v:Value}(tgt:Expr):acA tgt it v=if (tgt.ctorIdx==24||tgt.ctorIdx==25)=true then acA (.List [] default) it v else pure ():=
 aaO (motive_1:=λtgt=>acA tgt it v=if (tgt.ctorIdx==24||tgt.ctorIdx==25)=true then acA (.List [] default) it v else pure ()) tgt (λ_ _ _=>rfl) (λ_ _ _=>rfl) (λ_ _ _ _=>rfl) (λ_ _ _=>rfl) (λ_ _ _ _=>rfl) (λ_ _ _ _=>rfl) (λ_ _ _=>rfl) (λ_ _ _=>rfl) (λ_ _ _ _=>rfl) (λ_ _ _ _=>rfl) (λ_ _ _ _ _=>rfl) (λ_ _ _ _=>rfl) (λ_ _=>rfl) (λ_ _=>rfl) (λ_ _=>rfl) (λ_ _ _ _=>rfl) (λ_ _ _ _=>rfl) (λ_ _ _ _=>rfl) (λ_ _=>rfl) (λ_ _ _=>rfl) (λ_ _ _=>rfl) (λ_ _ _=>rfl) (λ_ _=>rfl) (λ_ _=>rfl) (λ_ _=>rfl) (λ_ _ _=>rfl) (λ_ _ _ _=>rfl)
theorem qU{M:Model}{A:aaY}{E:Value->Sh}{s:aaC}{tgt:Expr}{it:Addr}{v:Value}{Q:Unit->Sh}{o:Obj}{T:String}(ho:s.heap.get? it=some o)(hc:o.cls=.type T)
  (hT:["enumerate","zip","dict_itemiterator","dict_reverseitemiterator","odict_iterator","itertools.zip_longest","itertools.pairwise"].contains T=false) (h:Q () s):wpAny M A (acA tgt (.ref it) v) Q E s:=by
 rw[DV]
 cases (tgt.ctorIdx==24||tgt.ctorIdx==25)with
 |false=>exact aai h
 |true=>
  show wpAny M A (acA (.List [] default) (.ref it) v) Q E s
  cases v with
  |ref a'=>
   refine wpAny_bind (aeq ho ?_)
   dsimp only[cq,bZ]
   rw[hc]
   cases hd:o.data with
   |fields vs=>
    refine aaB (a:=()) ?_ h
    show(if (["enumerate","zip","dict_itemiterator","dict_reverseitemiterator","odict_iterator","itertools.zip_longest","itertools.pairwise"].contains T&&_)=true then _ else _)=_
    rw[hT,aiR]
    rfl
   |_=>exact aai h
  |_=>exact aai h
structure wh(l:Addr)(o:Obj)(i:Nat):Prop where
 cls:o.cls=.type "list_iterator"
 data:o.data=.fields #[.ref l,.int i 0]
theorem DW{tgt:Expr}{a:Nat}{l y it:Addr}{xs:List V}(O:bE m)(hv:m.A.handled=none)(hp:g₀.ρ[a]? =some (l,y)):
  Walk m g₀ tgt (.ref it) pure (bI (some (a,xs))) (λos rest=>bT λi o=>aO (os=[(it,o)]) (wh l o i) (rest=xs.drop i)) where
 calm:=nW _
 quiet:=qT
 next g os v vs st st₁ x s Q E E' x₀ hW R hc hd k:=by
  obtain⟨i,o,rfl,h1,h3⟩:=hW
  cases hd
  obtain⟨e1,e2⟩:=drop_cons h3
  obtain⟨rs,hl,hr⟩:=R.isList (x₀.at hp) (nV hc)
  obtain⟨rv,q1,q2⟩:=hr.at e1
  refine wpAny_pyNext_list_item ⟨o,R.eI,h1.cls,h1.data⟩ hl (x:=rv) (acC.trans q1) λh' hit' hs=>⟨rv,rfl,?_⟩
  obtain⟨o',ho',hc',hd'⟩:=hit'
  exact qU ho' hc' (by decide) (k g h' s.toks rv [(it,o')] (.refl g) ⟨i+1,o',rfl,⟨hc',hd'⟩,e2⟩ (R.lU (λb _ hb q=>(hs.2 b hb).trans q) ho') q2)
 fin g os st s Q E x₀ hW R hc k:=by
  obtain⟨i,o,rfl,h1,h3⟩:=hW
  obtain⟨rs,hl,hr⟩:=R.isList (x₀.at hp) (nV hc)
  exact wpAny_pyNext_list_end hv ⟨o,R.eI,h1.cls,h1.data⟩ hl (acC.trans (hr.wg (drop_nil h3))) λh' hs=>k h' (R.lX hs).of0
noncomputable abbrev qV (x left step:Int):Obj:={cls:=.type "range_iterator",dict:=none,data:=.fields #[adF x,adF left,adF step],slots:=#[]}
noncomputable def nX (x:Int) (n:Nat):List V:=(aaw n).map λ(k:Nat)=>V.int (x+(k:Int))
theorem wi(x:Int)(n:Nat):nX x (n+1)=V.int x::nX (x+1) n:=by
 unfold nX
 rw[aeH,aaH,abP]
 exact congr (congrArg abU (congrArg V.int (adn x))) (abJ λk _=>congrArg V.int (by show x+((k+1:Nat):Int)=_;rw[agx,ahn (k:Int),aeF];rfl))
noncomputable def kF (x c:Int) (n:Nat):List V:=(aaw n).map λ(k:Nat)=>V.int (x+(k:Int)*c)
theorem wj(x c:Int)(n:Nat):kF x c (n+1)=V.int x::kF (x+c) c n:=by
 unfold kF
 rw[aeH,aaH,abP]
 refine congr (congrArg abU (congrArg V.int (by show x+((0:Nat):Int)*c=x;rw[Int.natCast_zero,Int.zero_mul,adn]))) (abJ λk _=>congrArg V.int ?_)
 show x+((k+1:Nat):Int)*c=_
 rw[agx,Int.add_mul,ahn ((k:Int)*c),aeF]
 rw[show((1:Nat):Int)*c=c from Int.one_mul c]
theorem DX{tgt:Expr}{it:Addr}{c:Int}(hv:m.A.handled=none):
  Walk m g₀ tgt (.ref it) pure (bI none) (λos rest=>bT λ(x:Int) (n:Nat)=>os=[(it,qV x n c)]∧rest=kF x c n) where
 calm:=nW _
 quiet:=qT
 next g os v vs st st₁ x s Q E E' x₀ hW R hc hd k:=by
  obtain⟨y,n,rfl,h3⟩:=hW
  cases hd
  cases n with
  |zero=>contradiction
  |succ n=>
   rw[wj]at h3
   obtain⟨rfl,h5⟩:=abU.inj h3
   refine wpAny_pyNext_range_item (step:=c) R.eI (Int.natCast_pos.mpr (adL n)) λh' hit' hs=>⟨_,rfl,?_⟩
   rw[show((n+1:Nat):Int) -1=(n:Int) from(congrArg (· -1) (agx n 1)).trans (afE _ _)]at hit'
   exact qU hit' rfl (by decide) (k g h' (s.toks+1) _ [(it,qV (y+c) n c)] (.refl g) ⟨y+c,n,rfl,h5⟩ (R.lU (λb _ hb q=>(hs.2 b hb).trans q) hit') (.int y _))
 fin g os st s Q E x₀ hW R hc k:=by
  obtain⟨y,n,rfl,h3⟩:=hW
  cases n with
  |zero=>exact wpAny_pyNext_range_end (step:=c) hv R.eI (acS 0) λh' hs=>k h' (R.lX hs).of0
  |succ n=>rw[wj]at h3;contradiction
noncomputable abbrev lY (it:Addr) (i:Int) (old:Value):Obj:={cls:=.type "enumerate",dict:=none,data:=.fields #[.none,.bool false,.ref it,adF i,.none,old],slots:=#[]}
theorem DY{xs:List V}{i:Nat}{x v:V}{st₁:St}(hi:xs[i]? =some x)(e:iL xs (.int (i:Int)) st=.ok v st₁):v=.ref st.H.length∧st₁={st with H:=st.H++[.tuple [.int i,x]]}:=by
 have e:(Lite.aG xs[i]? >>=λx=>alloc (.tuple [.int (i:Int),x])) st=.ok v st₁:=e
 rw[hi]at e
 have e:alloc (.tuple [.int (i:Int),x]) st=.ok v st₁:=e
 cases e
 exact⟨rfl,rfl⟩
theorem DZ(xs:List V)(v:V)(st:St):(∃ x st₁,iL xs v st=.ok x st₁)∨iL xs v st=.no:=by
 cases v with
 |int i=>
  show(∃ x st₁,(Lite.aG xs[i.toNat]? >>=λx=>alloc (.tuple [.int i,x])) st=.ok x st₁)∨(Lite.aG xs[i.toNat]? >>=λx=>alloc (.tuple [.int i,x])) st=.no
  cases xs[i.toNat]? with
  |none=>exact .inr rfl
  |some x=>exact .inl ⟨_,_,rfl⟩
 |_=>exact .inr rfl
structure D0(l e it:Addr)(os:List (Addr×Obj))(rest:List V)(len i:Nat)(o:Obj)(old:Value)(n:Nat):Prop where
 os:os=[(e,lY it i old),(it,o)]
 it:wh l o i
 len:i+n=len
 rest:rest=nX i n
theorem Rel.D2{e it:Addr}{i:Nat}{o o':Obj}{old rv:Value}{h₁ h₂:Heap}{x:V}{tk:Tok}(R:Rel (m.x [(e,lY it i old),(it,o)]) g st h)(hne:e≠it)(hk:∀ b ob,b≠e->b≠it->h.get? b=some ob->h₂.get? b=some ob)
  (he:h₂.get? e=some (lY it ((i:Int)+1) rv)) (hi:h₂.get? it=some o') (ht:h₂.get? h.objs.size=some {cls:=.type "tuple",data:=.seq #[.int i tk,rv]}) (hv:m.VR g x rv):
  Rel (m.x [(e,lY it ((i+1:Nat):Int) rv),(it,o')]) (g.lay (h.objs.size,h.objs.size)) {st with H:=st.H++[.tuple [.int (i:Int),x]]} h₂:=by
 have R2:=R.ia
 have fE:bc m.c g st.H e:=R.jD.drop
 have fI:bc m.c g st.H it:=R2.jD
 have fT:bc m.c g st.H h.objs.size:=R.fW.inv.free (dP _)
 have R0:Rel (m.x []) g st h₂:=⟨R2.ia.inv.v5 (P:=λb=>b=e∨b=it) (λb q=>q.elim (λq=>q▸fE) λq=>q▸fI) λb o q=>hk b o (λz=>q (.inl z)) λz=>q (.inr z),R2.ia.loc⟩
 have R3:=(R0.lW fI hi).lW (bc.iS (os:=[]) fE (acm hne)) he
 exact R3.jx (o:=.tuple [.int (i:Int),x]) (bc.iS (bc.iS (os:=[]) fT (abY (abN R2.eI))) (abY (abN R.eI))) rfl ht ⟨[.int i tk,rv],0,rfl,.cons (.int _ _) (.cons (VR.mono (fc g _) hv) .nil)⟩
theorem D3{ts:List Expr}{x1}{pt:Pos}{a:Nat}{l y e it:Addr}{xs:List V}(hv:m.A.handled=none)(hp:g₀.ρ[a]? =some (l,y)):
  Walk m g₀ (.Tuple ts x1 pt) (.ref e) (iL xs) (bI (some (a,xs))) (λos rest=>d9 λi o old n=>D0 l e it os rest xs.length i o old n) where
 calm:=nW _
 quiet:=DZ xs
 next g os v vs st st₁ x s Q E E' x₀ hW R hc hd k:=by
  obtain⟨i,o,old,n,rfl,h1,hn,h4⟩:=hW
  cases n with
  |zero=>contradiction
  |succ n=>
   rw[wi]at h4
   obtain⟨rfl,h6⟩:=abU.inj h4
   obtain⟨rs,hl,hr⟩:=R.isList (x₀.at hp) (nV hc)
   have hi:i<xs.length:=hn▸Nat.lt_add_of_pos_right (adL n)
   have hx:=aaz hi
   obtain⟨rv,q1,q2⟩:=hr.at hx
   obtain⟨rfl,rfl⟩:=DY hx hd
   have hne:e≠it:=λz=>R.jD.1 (it,(·=o)) ((we (c:=m.c)).mem_iff.mpr (.head _)) z.symm
   refine wpAny_pyNext_enum_item (x:=rv) R.eI ⟨o,R.ia.eI,h1.cls,h1.data⟩ hl (acC.trans q1) hne λh' heo hit' ht hz hk=>⟨_,rfl,?_⟩
   refine wpAny_letOwnedTupleGo_enum heo λh₂ he2 hs₂=>?_
   obtain⟨o',ho',hc',hd'⟩:=hit'
   have hs₂:acD e h' h₂:=hs₂
   exact k _ h₂ (s.toks+1) _ _ (fc g (s.heap.objs.size,s.heap.objs.size)) ⟨i+1,o',rv,n,rfl,⟨hc',hd'⟩,(agK i n).trans hn,h6⟩
    (R.D2 (h₁:=h') (tk:=s.toks) hne (λb ob b1 b2 q=>(hs₂.2 b b1).trans (hk b ob b1 b2 q)) he2 ((hs₂.2 it (acm hne)).trans ho') ((hs₂.2 _ (Nat.ne_of_gt (abN R.eI))).trans ht) q2) (.ref R.last)
 fin g os st s Q E x₀ hW R hc k:=by
  obtain⟨i,o,old,n,rfl,h1,hn,h4⟩:=hW
  cases n with
  |succ n=>rw[wi]at h4;contradiction
  |zero=>
   obtain⟨rs,hl,hr⟩:=R.isList (x₀.at hp) (nV hc)
   exact wpAny_pyNext_enum_end hv R.eI ⟨o,R.ia.eI,h1.cls,h1.data⟩ hl (acC.trans (hr.wg (adi.mpr (akf hn.symm)))) λh' hs=>k h' ((R.ia).lX hs).of0
end
end
section
open _root_.PySem.SeqAt
theorem D4{o:Expr}(h:(!(o.ctorIdx==16))=true)(attr:Str)(env:Env)(whole:Sem Value):aii o attr env whole=whole:=by
 revert h
 exact aaO (motive_1:=λo=>(!(o.ctorIdx==16))=true->aii o attr env whole=whole) o (λ_ _ _ _=>rfl) (λ_ _ _ _=>rfl) (λ_ _ _ _ _=>rfl) (λ_ _ _ _=>rfl) (λ_ _ _ _ _=>rfl) (λ_ _ _ _ _=>rfl) (λ_ _ _ _=>rfl) (λ_ _ _ _=>rfl) (λ_ _ _ _ _=>rfl) (λ_ _ _ _ _=>rfl) (λ_ _ _ _ _ _=>rfl) (λ_ _ _ _ _=>rfl) (λ_ _ _=>rfl) (λ_ _ _=>rfl) (λ_ _ _=>rfl) (λ_ _ _ _ _=>rfl) (λa b c d=>λh=>aaa h) (λ_ _ _ _ _=>rfl) (λ_ _ _=>rfl) (λ_ _ _ _=>rfl) (λ_ _ _ _=>rfl) (λ_ _ _ _=>rfl) (λ_ _ _=>rfl) (λ_ _ _=>rfl) (λ_ _ _=>rfl) (λ_ _ _ _=>rfl) (λ_ _ _ _ _=>rfl)
theorem nY{o:Expr}(h:lH o=true)(attr:Str)(env:Env)(whole:Sem Value):aii o attr env whole=whole:=by
 rcases abq.mp h with h |h
 ·exact D4 h attr env whole
 ·obtain⟨c,hc,h⟩:=(ado _ _).mp h
  obtain⟨p,rfl⟩:=pA hc
  obtain⟨f,args,kws⟩:=c
  cases args with
  |nil=>exact aaa h
  |cons a r=>cases f<;>rfl
theorem qW{α β γ:Type}{M:Model}{A:aaY}{f:Sem α}{k:α->Sem β}{l:β->Sem γ}{Q:γ->Sh}{E:Value->Sh}{s:aaC}(h:ao M A (f>>=λa=>k a>>=l) Q E s):ao M A ((f>>=k)>>=l) Q E s:=λΓ p hΓ n=>by
 have:=h Γ p hΓ n
 simp only[afY]at this ⊢
 exact this
theorem D5{α β γ:Type}{M:Model}{A:aaY}{vs:Vs}{f:Sem α}{k:α->Sem β}{l:β->Sem γ}{Q:γ->Sh}{E:Value->Sh}{s:aaC}(h:ao M A (f>>=λa=>k a>>=l) Q E s):ao M A (ace vs (f>>=k)>>=l) Q E s:=λΓ p hΓ n=>by
 have:=h Γ p hΓ n
 simp only[afY,ajl]at this ⊢
 exact this
theorem dA{α β γ δ:Type}{m:Am}{g:Gs}{st:St}{f:Sem β}{k:β->Sem γ}{l:γ->Sem δ}{r:R α}{rel:Gs->α->δ->Prop}(h:Np m g st (f>>=λa=>k a>>=l) r rel):Np m g st ((f>>=k)>>=l) r rel:=
 λs Q E R P=>qW (h s Q E R P)
theorem nZ{α β γ δ:Type}{m:Am}{g:Gs}{st:St}{vs:Vs}{f:Sem β}{k:β->Sem γ}{l:γ->Sem δ}{r:R α}{rel:Gs->α->δ->Prop}(h:Np m g st (f>>=λa=>k a>>=l) r rel):Np m g st (abb vs (f>>=k)>>=l) r rel:=
 λs Q E R P=>D5 (h s Q E R P)
section
variable {m:Am} {g:Gs} {st:St} {α:Type} {P:a9} {K:Frag} {mg mb:Str->Option Value} {ev:Expr->M V}
theorem D6(H:bf m ev)(l:Expr)(op:abZ)(r:Expr)(p:Pos):Np m g st (eval (.BinOp l op r p) m.env) ((do let a<-ev l;let b<-ev r;binop op a b:M V) st) m.VR:=by
 rw[arm_eval_BinOp]
 refine Np.bind (H.snd l g st) λa st₁ g₁ ra e1 x va=>?_
 refine Np.bind (Np.holding (H.snd r g₁ st₁)) λb st2 g₂ rb e2 x2 vb=>?_
 exact Np.standAt (lS (β:=Unit) (Bh (va.mono x2) vb).np)
theorem D7(H:bf m ev)(x:Expr)(p:Pos):Np m g st (eval (.UnaryOp .Not x p) m.env) ((ev x>>=λv=>truth v>>=λb=>aak (V.bool (!b))) st) m.VR:=by
 rw[arm_eval_UnaryOp]
 refine Np.bind (H.snd x g st) λa st₁ g₁ ra e1 x va=>Np.standAt (Np.holding (Np.gh λb hb=>?_))
 subst hb
 rw[show ra=.bool b from va]
 exact(Wp.val (v:=.bool (!b)) λs Q E R k=>not_value (agz (k _ s.toks (.bool _)))).np
theorem D8(H:bf m ev)(op:agU)(vs:List Expr)(p:Pos):Np m g st (eval (.BoolOp op vs p) m.env) (nq ev op vs st) m.VR:=by
 rw[arm_eval_BoolOp];exact DK H p op vs g st
theorem D9(G:aB m P K mg mb)(H:bf m ev)(l:Expr)(ops:List CmpOp)(rs:List Expr)(p:Pos):Np m g st (eval (.Compare l ops rs p) m.env) ((guard (decide (ops.length=rs.length))>>=λ_=>ev l>>=λa=>iK ev a ops rs>>=λt=>aak (V.bool t)) st) m.VR:=by
 rw[arm_eval_Compare]
 exact Np.aL λhl=>Np.bind (H.snd l g st) λa st₁ g₁ ra e1 x va=>DF G H p ops rs a ra g₁ st₁ (of_decide_eq_true hl) va
theorem D'(G:aB m P K mg mb)(H:bf m ev)(o:Expr)(a:Str)(p:Pos):Np m g st (eval (.Attribute o a p) m.env) ((do guard (lH o);let ov<-ev o;lC P ov a:M V) st) m.VR:=by
 rw[arm_eval_Attribute]
 refine Np.aL λhp=>?_
 rw[nY hp]
 refine Np.bind (H.snd o g st) λv st₁ g₁ rv e1 x vv=>Np.standAt ?_
 refine vA (Np.holding (vg G.PK vv).np) id (λ_ _ _ h=>h) λs Q E h=>az (fH h (λr s' h'=>?_) λ_ _ h'=>h')
 exact aC (wpAny_letTemporaryGo (aK h'))
theorem Ea(G:aB m P K mg mb)(H:bf m ev)(o i:Expr)(p:Pos):Np m g st (eval (.Subscript o i p) m.env) ((do let ov<-ev o;let iv<-ev i;cX ov iv:M V) st) m.VR:=by
 rw[ajt]
 refine Np.bind (H.snd o g st) λv st₁ g₁ rv e1 x vv=>?_
 refine Np.bind (Np.holding (H.snd i g₁ st₁)) λw st2 g₂ rw' e2 x2 vw=>Np.standAt ?_
 exact(BO G.PK (vv.mono x2) vw).np
theorem Eb(G:aB m P K mg mb)(H:bf m ev)(o:Expr)(lo hi:Option Expr)(sp p:Pos):
  Np m g st (eval (.Subscript o (.Slice lo hi none sp) p) m.env) ((do let ov<-ev o;let l<-kj ev lo;let h<-kj ev hi;fA ov l h:M V) st) m.VR:=by
 rw[ajt]
 refine Np.bind (H.snd o g st) λv st₁ g₁ rv e1 x vv=>?_
 show Np m g₁ st₁ (ace [rv] (aji (evalOpt lo m.env)>>=λl=>ace [l] (aji (evalOpt hi m.env))>>=λu=>ace [l,u] (aak abo)>>=λs=>agZ "slice" [l,u,s])>>=λi=>acr p>>=λ_=>aeZ o (.Slice lo hi none sp) rv i) _ _
 refine nZ ?_
 refine Np.bind (vZ H lo) λl st2 g₂ rl e2 x2 vl=>dA ?_
 refine Np.bind (Np.holding (vZ H hi)) λu st3 g₃ ru e3 x3 vu=>dA ?_
 have:=(BS (st:=st3) (sp:=p) (value:=o) (slice:=.Slice lo hi none sp) (vv.mono (x2.trans x3)) vl vu).np
 refine Np.step (c:=abo) (λs Q E h=>abT (aai h)) ?_
 exact this
theorem Ec(H:bf m ev)(es:List Expr)(p:Pos)(h:es.all notStar=true):Np m g st (eval (.List es p) m.env) ((do let vs<-eQ ev es;guard (decide (vs.length<=lim));alloc (.list vs):M V) st) m.VR:=by
 rw[arm_eval_List]
 refine Np.standAt (Np.bind (vY H es g st p h) λvs st₁ g₁ rs e1 x va=>Np.aL λhl=>?_)
 exact DL va (of_decide_eq_true hl)
theorem Ed(H:bf m ev)(es:List Expr)(k:Nat)(p:Pos)(h:es.all notStar=true):Np m g st (eval (.Tuple es k p) m.env) ((do let vs<-eQ ev es;guard (decide (vs.length<=lim));alloc (.tuple vs):M V) st) m.VR:=by
 rw[arm_eval_Tuple]
 refine Np.standAt (Np.bind (vY H es g st p h) λvs st₁ g₁ rs e1 x va=>Np.aL λhl=>?_)
 exact DM va (of_decide_eq_true hl)
theorem Ee(G:aB m P K mg mb)(H:bf m ev)(n:Nat)(t b o:Expr)(p:Pos):Np m g st (eval (.IfExp t b o p) m.env) ((do if<-gK ev n t then ev b else ev o:M V) st) m.VR:=by
 rw[arm_eval_IfExp]
 refine Np.bind (qM G H n t g st) λa st₁ g₁ b' e1 x hb=>?_
 rw[<-show a=b' from hb]
 cases a with
 |true=>exact H.snd b g₁ st₁
 |false=>exact H.snd o g₁ st₁
end
end
section
open _root_.PySem.SeqAt
abbrev Keeps(M:Model)(h:Heap)(f:Value):Prop:=∃ k,(k=Keeper.frame∨k=Keeper.machine∨k=Keeper.boundFrame)∧Looks M h (keeperOf f) k
structure ic(m:Am)(P:a9)(C:Ct):Prop where
 call:∀ (f:V) (args:List V) (rf:Value) (rargs:Vs) (g:Gs) (st:St),m.VR g f rf->m.aA g args rargs->Np m g st (aal rf rargs) (aP P C m.lv f args st) m.VR
 keep:∀ (f:V) (args:List V) (rf:Value) (g:Gs) (st:St) (h:Heap),m.VR g f rf->Inv m.c g st.H h->aP P C m.lv f args st≠.no->Keeps (model m.c.prog m.c.w) h rf
section
variable {M:Model} {A:aaY} {E:Value->Sh} {s:aaC}
theorem Ef{f:Value}{args:List (Bool×Sem Value)}{Q:Args->Sh}(hplain:args.any (·.1)=false)
  (h:ao M A (aeg args) (λvs s'=>Q ⟨vs,[]⟩ s') E s):ao M A (evalArgs f true args []) Q E s:=by
 have e:evalArgs f true args []=(aeg args>>=λvs=>abb (vs++(none:Option Value).toList) (evalAll []>>=λks=>aak vs>>=λvs=>aak (⟨vs,([]:List Str).zip ks⟩:Args))):=by
  cases args with
  |nil=>rfl
  |cons a rest=>
   obtain⟨b,x⟩:=a
   cases b with
   |true=>contradiction
   |false=>rfl
 rw[e]
 exact az (fH h (λvs s' h'=>bN (az (aK (az (aK (aK h')))))) λ_ _ x=>x)
theorem lZ{pos:Pos}{f:Value}{first:Vs}{args:List (Bool×Sem Value)}{Q:Value->Sh}(hplain:args.any (·.1)=false)
  (h:ao M A (aeg args) (λvs s₁=>Keeps M s₁.heap f∧ao M A (aal f (first++vs)) Q E s₁) E s):ao M A (aij pos f first args []) Q E s:=by
 unfold aij
 refine az (bN (Ef hplain (fH h (λvs s₁ h₁=>cV ?_) λ_ _ x=>x)))
 obtain⟨k,hk',L⟩:=h₁.1
 rw[hplain]
 refine aC (L.here ?_)
 have tail:∀ {t:Sem Value},ao M A t Q E s₁->ao M A (t>>=λr=>abb [r] point>>=λ_=>pure r) Q E s₁:=
  λht=>az (fH ht (λr s₂ hr=>az (bN (bt (wpAny_point (aK hr))))) λ_ _ x=>x)
 have marked (mk:Value):ao M A (ajO mk f (first++vs) []) Q E s₁:=by unfold ajO;exact Ar h₁.2
 have br (mk:Value) {c:Prop} [Decidable c]:ao M A (if c then aal f (first++vs)>>=λr=>abb [r] point>>=λ_=>pure r else ajO mk f (first++vs) []>>=λr=>abb [r] point>>=λ_=>pure r) Q E s₁:=by
  by_cases h:c
  ·rw[if_pos h];exact tail h₁.2
  ·rw[if_neg h];exact tail (marked mk)
 rcases hk' with rfl |rfl |rfl
 ·exact(br plainCall (c:=args.length+2*([]:List (Option Str×Sem Value)).length>30))
 ·exact tail h₁.2
 ·exact(br callOfAMethodObject (c:=args.length+2*([]:List (Option Str×Sem Value)).length>30))
end
section
variable {m:Am} {g:Gs} {st:St} {α:Type} {P:a9} {K:Frag} {mg mb:Str->Option Value} {ev:Expr->M V} {C:Ct}
theorem wm(H:bf m ev)(Cv:ic m P C){pos:Pos}{f:V}{rf:Value}{first:List V}{rfirst:Vs}(vf:m.VR g f rf)(v1:m.aA g first rfirst){args:List Expr}(ha:args.all notStar=true):
  Np m g st (aij pos rf rfirst (ahK pos (ael args m.env)) []) ((eQ ev args>>=λas=>aP P C m.lv f (first++as)) st) m.VR:=by
 intro s Q E R Pp
 simp only[iP ha,iQ]
 refine lZ (lR args) ((qG (λe=>H.snd e) args g st).use R (λas st₁ e1 g₁ h₁ tk1 ras x₁ R₁ va=>?_) (λk st₁ e1 g₁ h₁ tk1 e x₁ R₁ X=>?_) λe1=>?_)
 ·rw[cb e1]at Pp
  have vf':=vf.mono x₁
  have hn:aP P C m.lv f (first++as) st₁≠.no:=λz=>by rw[z]at Pp;exact Pp.elim
  exact⟨Cv.keep f _ rf g₁ st₁ h₁ vf' R₁.inv hn,Cv.call f _ rf _ g₁ st₁ vf' (aA.append (v1.mono x₁) va) _ Q E R₁ (Pp.shift x₁)⟩
 ·rw[fV e1]at Pp;exact Pp g₁ h₁ tk1 e x₁ R₁ X
 ·rw[eG e1]at Pp;exact Pp.elim
theorem Eg(H:bf m ev)(Cv:ic m P C)(x:Str)(p pos:Pos)(args:List Expr):
  Np m g st (eval (.Call (.Name x p) args [] pos) m.env) ((do guard (lG args);let fv<-ev (.Name x p);let as<-eQ ev args;aP P C m.lv fv as:M V) st) m.VR:=by
 rw[aet]
 refine Np.aL λho=>?_
 have ha:args.all notStar=true:=(aab.mp ho).1
 refine Np.bind (H.snd (.Name x p) g st) λfv st₁ g₁ rf e1 x₁ vf=>?_
 exact wm (first:=[]) H Cv vf .nil ha
theorem Eh(G:aB m P K mg mb)(H:bf m ev)(Cv:ic m P C)(o:Expr)(nm:Str)(apos pos:Pos)(args:List Expr):
  Np m g st (eval (.Call (.Attribute o nm apos) args [] pos) m.env) ((do
   guard (lH o&&lG args&&(apos.endLine==pos.line))
   let ov<-ev o
   let fm<-getM P ov nm
   let as<-eQ ev args
   aP P C m.lv fm.1 (fm.2++as):M V) st) m.VR:=by
 rw[aik]
 refine Np.aL λho=>?_
 obtain⟨h12,h3⟩:=aab.mp ho
 obtain⟨h1,h2⟩:=aab.mp h12
 obtain⟨ha,hl⟩:=aab.mp h2
 rw[nY h1]
 refine Np.bind (H.snd o g st) λov st₁ g₁ ro e1 x₁ vo=>Np.standAt ?_
 unfold ajP
 have hf:afN (args.length+([]:List afW).length) (ahK pos (ael args m.env)) (backToKw pos (keywordEach [] m.env))=true:=by
  rw[iP ha,iQ]
  unfold afN
  rw[all_plain]
  exact decide_eq_true (abV (of_decide_eq_true hl) (by decide))
 rw[hf]
 refine Np.bind (f':=λfm=>eQ ev args>>=λas=>aP P C m.lv fm.1 (fm.2++as)) (Np.holding (t:=aiE ro nm _) (Dx G.PK vo)) λfm st2 g₂ rfm e2 x₂ vm=>?_
 obtain⟨rf,rfirst⟩:=rfm
 have hp:agn true o m.env apos pos=pure pos:=by
  unfold agn
  rw[h3]
  rfl
 dsimp only
 rw[hp]
 refine fJ ?_
 exact wm H Cv vm.1 vm.2 ha
end
end
section
open _root_.PySem.SeqAt
section
variable {m:Am} {g:Gs} {st:St} {os:List (Addr×Obj)}
end
section
variable {m:Am} {g:Gs} {st:St} {α:Type} {P:a9} {K:Frag} {mg mb:Str->Option Value} {ev:Expr->M V}
theorem Ei(p:Pos):Np m g st (eval (.Dict [] [] p) m.env) (alloc (.dict []) st) m.VR:=by
 rw[eval_Dict_empty]
 refine Np.standAt (nJ (o:=.dict []) rfl (λs Q E R k=>?_) λg p ob h=>h).np
 have:=Heap.dictOf_iff.mp (Heap.DictOf.new (knd:=aia m.c.prog m.c.w) s.heap)
 obtain⟨ob,h1,h2⟩:=this
 rw[aaX _ rfl]at h1
 obtain rfl:=aae.inj h1
 unfold newDict
 exact acU (k s.heap _ s.toks R rfl ⟨[],h2,.nil⟩)
end
end
section
open _root_.PySem.SeqAt
section
variable {m:Am} {g:Gs} {st:St} {os:List (Addr×Obj)}
theorem qX{a b c:Int}(h:0<c):abz a b c=if a<b then (b-a-1)/c+1 else 0:=by
 unfold abz
 rw[if_pos h]
theorem Ej{a b c:Int}(h:0<c):0<=abz a b c:=by
 rw[qX h]
 split
 ·rename_i q;exact agG (aiV (Int.le_sub_one_of_lt (Int.sub_pos_of_lt q)) (acg h)) (by decide)
 ·exact acS 0
theorem fitsLong{x:Int}(h: -(2 ^ 62)<=x)(h':x<=2 ^ 62):adC x=true:=by
 unfold adC
 rw[decide_eq_true (abX (by decide) h),decide_eq_true (aem h' (by decide))];rfl
theorem qY{x:Int}(h: -(2 ^ 60)<x)(h':x<2 ^ 60):adC x=true:=fitsLong (acg (aeW (by decide) h)) (acg (aeW h' (by decide)))
theorem Ek{a b c:Int}(h:eo a b c=true):agi a b c=true:=by
 have h:=qE h
 have h1:=h.p1;have h2:=h.p2;have h3:=h.p3;have h4:=h.p4;have h5:=h.p5;have h6:=h.p6
 unfold agi
 rw[qX h5,if_pos h5,qY h1 h2,qY h3 h4,qY (aeW (by decide) h5) (aeW h6 (by decide))]
 by_cases hab:a<b
 ·have ub:(b-a-1)/c<=b-a-1:=Int.ediv_le_self _ (by lia)
  have lb:0<=(b-a-1)/c:=aiV (by lia) (by lia)
  rw[if_pos hab,fitsLong (x:=(b-a-1)/c+1) (by lia) (by lia),fitsLong (x:=b+(c-1)) (by lia) (by lia),ahj];rfl
 ·rw[if_neg hab];rfl
def qZ(m:Am)(g:Gs)(st:St)(items:List V)(o:Option (Nat×List V))(h h':Heap)(it:Addr):Prop:=
 bT λ(os:List (Addr×Obj)) (W:List (Addr×Obj)->List V->Prop)=>gd (∀ b ob,h.get? b=some ob->h'.get? b=some ob) (Rel (m.x os) g st h') (W os items)
  (∀ m':Am,m'.c.b₀=m.c.b₀->m'.c.T=m.c.T->m'.c.prog=m.c.prog->m'.c.w=m.c.w->m'.A.handled=none->bE m'->∀ g' tgt,Ext g g'->Walk m' g' tgt (.ref it) pure (bI o) W)
  (∀ (A:aaY) (s':aaC) (Q:Value->Sh) (E:Value->Sh),(∀ ob,h'.get? it=some ob->s'.heap.get? it=some ob)->Q (.ref it) s'->wpAny (model m.c.prog m.c.w) A (ago (.ref it)) Q E s')
theorem Rel.q6{h:Heap}{ob:Obj}(R:Rel m g st h)(hf:ob.isFreed=false):Rel (m.x [(h.objs.size,ob)]) g st (h.push ob):=R.x0.iS (dP _) (λ_ _ e=>aaF _ e) (aaX _ hf)
theorem El{a:Nat}{x y:Addr}{xs:List V}{h:Heap}(R:Rel m g st h)(hp:g.ρ[a]? =some (x,y)):qZ m g st xs (some (a,xs)) h (h.push {cls:=.type "list_iterator",data:=.fields #[.ref x,.int 0 0]}) h.objs.size:=
 ⟨[(h.objs.size,_)],_,λ_ _ e=>aaF _ e,R.q6 rfl,⟨0,_,rfl,⟨rfl,rfl⟩,rfl⟩,λm' h1 h2 h3 h4 h5 h6 g' tgt x'=>DW h6 h5 (x'.at hp),λA s' Q E hs hq=>wpAny_pyIter_listiter (l:=x) (i:=0) ⟨_,hs _ (aaX _ rfl),rfl,rfl⟩ hq⟩
theorem Em{a b c:Int}(h:0<c):(rangeInts a b c).map V.int=kF a c (abz a b c).toNat:=by
 unfold rangeInts kF
 rw[abP,qX h]
 rfl
theorem En{a b c:Int}{h:Heap}(R:Rel m g st h)(h0:0<c):qZ m g st ((rangeInts a b c).map V.int) none h (h.push (qV a (abz a b c) c)) h.objs.size:=by
 rw[Em h0,show abz a b c=((abz a b c).toNat:Int) from(afp (Ej h0)).symm]
 exact⟨[(h.objs.size,_)],_,λ_ _ e=>aaF _ e,R.q6 rfl,⟨a,(abz a b c).toNat,rfl,rfl⟩,λm' h1 h2 h3 h4 h5 h6 g' tgt x'=>DX h5,λA s' Q E hs hq=>wpAny_pyIter_rangeiter (hs _ (aaX _ rfl)) hq⟩
theorem Eo{v:V}{r:List V×Option (Nat×List V)}{st':St}(e:iter v st=.ok r st'):st'=st∧∃ a,v=.ref a∧((∃ xs,st.H[a]? =some (.list xs)∧r=(xs,some (a,xs)))∨cW λb c d=>aO (st.H[a]? =some (.range b c d)) (eo b c d=true) (r=((rangeInts b c d).map .int,none))):=by
 obtain⟨a,hA,e⟩:=ky e
 obtain⟨ob,q,e⟩:=(Still.obj _).inv e
 have q:=uP q
 cases ob with
 |list xs=>
  obtain⟨_,hl,e⟩:=(fD _).inv e
  exact⟨uN e,a,hH hA,.inl ⟨xs,q,hJ e⟩⟩
 |range b c d=>
  obtain⟨_,hg,e⟩:=(fD _).inv e
  exact⟨uN e,a,hH hA,.inr ⟨b,c,d,q,hU hg,hJ e⟩⟩
 |_=>exact kz e
theorem wo(O:bE m)(hv:m.A.handled=none){v:V}{rv:Value}{r:List V×Option (Nat×List V)}{st':St}(vv:m.VR g v rv)(e:iter v st=.ok r st'){s:aaC}{Q:Value->Sh}{E:Value->Sh}(R:Rel m g st s.heap)
  (hQ:∀ h' it,qZ m g st r.1 r.2 s.heap h' it->Q (.ref it) {s with heap:=h'}):wpAny (model m.c.prog m.c.w) m.A (ago rv) Q E s:=by
 obtain⟨_,a,rfl,h⟩:=Eo e
 obtain⟨x,y,rfl,hp⟩:=vv
 rcases h with ⟨xs,q,rfl⟩ | ⟨b,c,d,q,hg,rfl⟩
 ·obtain⟨vs,hL,hr⟩:=R.isList hp q
  exact wpAny_pyIter_list hL (hQ _ _ (El R hp))
 ·obtain⟨ob,h1,t,u,v,rfl⟩:=R.inv.obj hp q
  exact wpAny_pyIter_range h1 (Ek hg) (hQ _ _ (En R (qE hg).p5))
end
end
section
open _root_.PySem.SeqAt
section
variable {m:Am} {g:Gs} {st:St} {α:Type} {P:a9} {K:Frag} {mg mb:Str->Option Value} {ev:Expr->M V}
theorem Ep{M:Model}{A:aaY}{E:Value->Sh}{s:aaC}{env:Env}{name:Str}{c:Addr}{v₀:Option Value}{v:Value}{Q:Unit->Sh}(hk:env.scope.kind=.function)(hl:env.kindOf name=some .cell∨env.kindOf name=some .free)
  (hc:env.cells.lookup name=some c) (hv:s.heap.IsCell c v₀)
  (h:∀ h',h'.IsCell c (some v)->acD c s.heap h'->Q () {s with heap:=h'}):wpAny M A (storeName env name v) Q E s:=by
 have e:storeName env name v=(cellOf env name>>=λc=>cellSet c (some v)):=by
  unfold storeName Env.blockKind
  rw[hk]
  rcases hl with hl |hl<;>(rw[hl];rfl)
 rw[e]
 exact wpAny_bind (wpAny_cellOf hc (wpAny_cellSet hv h))
theorem Er(O:bE m){i j:Nat}{p q:Str×aax}(hi:m.sc.names[i]? =some p)(hj:m.sc.names[j]? =some q):p.1=q.1↔i=j:=by
 have h1:(m.sc.names.map (·.1))[i]? =some p.1:=by rw[abu,hi];rfl
 have h2:(m.sc.names.map (·.1))[j]? =some q.1:=by rw[abu,hj];rfl
 refine⟨λe=>(aip (aan.mp h1).1 O.env.nd).mp (h1.trans (e▸h2.symm)),λe=>?_⟩
 subst e
 exact congrArg aei (aae.inj (hi.symm.trans hj))
theorem Rel.aD(O:bE m){h h':Heap}{i:Nat}{x:Str}{v:V}{r:Value}(R:Rel m g st h)(hi:m.sc.names[i]? =some (x,aax.local))(hv:m.VR g v r)
  (hn:h'.Ns m.c.N (λy=>if y=x then some r else g.m y)) (hs:acD m.c.N h h'):Rel m {g with m:=λy=>if y=x then some r else g.m y} {st with lo:=st.lo.set i (some v)} h':=by
 refine⟨R.inv.uK (λb hb=>hs.2 b hb) hn,⟨adu.trans R.loc.len,λj y w e e'=>?_,λj y k e hk=>?_⟩⟩
 ·show cN m.c g w (if y=x then some r else g.m y)
  by_cases hij:i=j
  ·subst hij
   have hlt:i<st.lo.length:=by rw[R.loc.len];exact(aan.mp hi).1
   rw[List.getElem?_set_self hlt]at e'
   rw[if_pos (congrArg aei (aae.inj (e.symm.trans hi))),<-aae.inj e']
   exact .some hv
  ·rw[adR hij]at e'
   rw[if_neg λz=>hij ((Er O hi e).mp z.symm)]
   exact R.loc.loc j y w e e'
 ·have ne:i≠j:=λz=>by
   have z:aax.local=k:=congrArg ahS (aae.inj (hi.symm.trans (z▸e)))
   subst z
   rcases hk with hk |hk<;>contradiction
  obtain⟨a,y',z,h1,h2⟩:=R.loc.cx j y k e hk
  exact⟨a,y',z,(adR ne).trans h1,h2⟩
theorem kG(O:bE m){x:Str}{v:V}{rv:Value}(vv:m.VR g v rv):Np m g st (acs m.env x rv) (store m.sc x v st) ct:=by
 have nr:=nC m.sc x
 unfold store
 generalize de m.sc x=r at nr
 cases r with
 |bad=>exact Np.no
 |glob=>exact Np.no
 |loc i=>
  intro s Q E R Pp
  have hn:=R.inv.ns
  rw[<-O.env.locals]at hn
  refine bt (wpAny_bindName (wpAny_storeName_local (O.env.loc x nr.2) hn (λh' hn' hs'=>?_) (by rw[O.env.kind];rfl)))
  rw[O.env.locals]at hn' hs'
  exact Pp {g with m:=λy=>if y=x then some rv else g.m y} h' (s.toks+1) () ⟨adt⟩ (R.aD O nr.1 vv hn' hs') trivial
 |cx i=>
  obtain⟨_,a,hk,b⟩:=nr
  show Np m g st _ (match gI i st with |some c=>.ok () {st with H:=st.H.set c.1 (.cell (some v))} |none=>.no) ct
  cases hc:gI i st with
  |none=>exact Np.no
  |some c=>
   intro s Q E R Pp
   obtain⟨c1,c2⟩:=uU hc
   obtain⟨aa,y,z,e1,e2,e3⟩:=R.loc.cx i x _ a hk
   rw[qk (aae.inj (aae.inj (e1.symm.trans c1)))]at e2
   obtain⟨obj,h1,r,h2,h3⟩:=R.inv.obj e2 c2
   refine bt (wpAny_bindName (Ep O.env.kind (O.env.cx x b) e3 ⟨obj,h1,h2⟩ λh' hc' hs'=>?_))
   obtain⟨ob',k1,k2⟩:=hc'
   exact Pp g h' s.toks () (.refl g) (R.put (o':=.cell (some v)) e2 c2 rfl rfl (λb hb=>hs'.2 b hb) k1 ⟨some rv,k2,.some vv⟩) trivial
theorem wq(O:bE m){x:Str}{p:Pos}{v:V}{rv:Value}(vv:m.VR g v rv):Np m g st (acL (.Name x p) m.env rv) (store m.sc x v st) ct:=Np.standAt (kG O vv)
theorem Es(G:aB m P K mg mb){o v:V}{ro rv:Value}{p:Pos}{vs ws:Value->Vs}(vo:m.VR g o ro)(vv:m.VR g v rv):
  Np m g st (agZ "slice" [.none,.none,.none]>>=λi=>acr p>>=λ_=>abb (vs i) (aid ro i rv)>>=λ_=>aiT (ws i) []) (jr o v st) ct:=by
 unfold jr
 refine Np.bx λa ha=>?_
 subst ha
 refine Np.iJ λb hb=>Np.eZ λx hx=>?_
 subst hx
 refine Np.aL λhg=>?_
 obtain⟨h1,h2⟩:=aab.mp hg
 have h1:=of_decide_eq_true h1
 have h2:=of_decide_eq_true h2
 obtain⟨y,z,rfl,hp⟩:=vo
 obtain⟨t,rfl⟩:=vv
 intro s Q E R Pp
 refine aC (acU ?_)
 have hb':=R.inv.bG hp hb
 refine cV (az (bN (fH (E':=E) (Q:=λ_ s'=>Q () s') ?_ (λ_ s' q=>bt (aek q)) λ_ _ q=>q)))
 refine CS G.O.fR (b:=b) (aaF _ hb') (aex _ _ _ _) h1 h2 λh' hs hx=>?_
 refine Pp g h' s.toks () (.refl g) ?_ trivial
 have R1:=R.push {cls:=.type "slice",data:=.fields [abo,.none,.none].toArray}
 exact⟨R1.inv.putK hp hb rfl rfl hs hx rfl,R.loc⟩
theorem Np.after{β δ:Type}{t:Sem β}{k:β->Sem δ}{r:R α}{rel:Gs->α->β->Prop}{rel':Gs->α->δ->Prop}(h:Np m g st t r rel)(f:β->δ)(hr:∀ g' a b,rel g' a b->rel' g' a (f b))
  (hk:∀ (b:β) (s:aaC) (Q:δ->Sh) (E:Value->Sh),Q (f b) s->wpAny (model m.c.prog m.c.w) m.A (k b) Q E s):Np m g st (t>>=k) r rel':=
 vA h f hr λs Q E h=>az (fH h (λb s' q=>bt (hk b s' Q E q)) λ_ _ q=>q)
theorem Et{env:Env}{r:List Expr}(e:Expr):notStar e=true->adT (e::r) env=(false,acL e env)::adT r env:=
 aaO (motive_1:=λe=>notStar e=true->adT (e::r) env=(false,acL e env)::adT r env) e (λ_ _ _ _=>rfl) (λ_ _ _ _=>rfl) (λ_ _ _ _ _=>rfl) (λ_ _ _ _=>rfl) (λ_ _ _ _ _=>rfl) (λ_ _ _ _ _=>rfl) (λ_ _ _ _=>rfl) (λ_ _ _ _=>rfl) (λ_ _ _ _ _=>rfl) (λ_ _ _ _ _=>rfl) (λ_ _ _ _ _ _=>rfl) (λ_ _ _ _ _=>rfl) (λ_ _ _=>rfl) (λ_ _ _=>rfl) (λ_ _ _=>rfl) (λ_ _ _ _ _=>rfl) (λ_ _ _ _ _=>rfl) (λ_ _ _ _ _=>rfl) (λ_ _ _=>rfl) (λ_ _ _ _=>rfl) (λ_ _ _ _=>rfl) (λ_ _ _ _=>rfl) (λa b=>λh=>aaa h) (λ_ _ _=>rfl) (λ_ _ _=>rfl) (λ_ _ _ _=>rfl) (λ_ _ _ _ _=>rfl)
theorem Eu{env:Env}{ts:List Expr}(h:ts.all notStar=true):adT ts env=ts.map λt=>(false,acL t env):=by
 induction ts with
 |nil=>rfl
 |cons e r ih=>
  obtain⟨h1,h2⟩:=aab.mp (agJ▸h)
  rw[Et e h1,ih h2];rfl
theorem Ew(G:aB m P K mg mb)(H:bf m ev){o i:Expr}{p:Pos}{v:V}{rv:Value}(vv:m.VR g v rv):
  Np m g st (acL (.Subscript o i p) m.env rv) ((do let ov<-ev o;let iv<-ev i;dN ov iv v:M Unit) st) ct:=by
 rw[aiP]
 refine Np.bind (Np.holding (H.snd o g st)) λov st₁ g₁ ro e1 x₁ vo=>?_
 refine Np.bind (Np.holding (H.snd i g₁ st₁)) λiv st2 g₂ ri e2 x₂ vi=>Np.standAt ?_
 exact Np.after (Np.holding (vz G.PK (vo.mono x₂) vi (vv.mono (x₁.trans x₂))).np) id (λ_ _ _ h=>h) λ_ s Q E h=>aek h
theorem Ex(G:aB m P K mg mb)(H:bf m ev){o:Expr}{sp p:Pos}{v:V}{rv:Value}(vv:m.VR g v rv):
  Np m g st (acL (.Subscript o (.Slice none none none sp) p) m.env rv) ((do let ov<-ev o;jr ov v:M Unit) st) ct:=by
 rw[aiP]
 refine Np.bind (Np.holding (H.snd o g st)) λov st₁ g₁ ro e1 x₁ vo=>?_
 refine nZ (f:=aak abo) (k:=λl=>abb [l] (aak abo)>>=λu=>abb [l,u] (aak abo)>>=λs=>agZ "slice" [l,u,s]) (fJ ?_)
 refine dA (Np.step (c:=abo) (λs Q E h=>abT (aai h)) ?_)
 refine dA (Np.step (c:=abo) (λs Q E h=>abT (aai h)) ?_)
 exact Es (st:=st₁) G vo (vv.mono x₁)
theorem Ey{f:Expr->V->M Unit}(hf:∀ (t:Expr) (v:V) (rv:Value) (g:Gs) (st:St),m.VR g v rv->Np m g st (acL t m.env rv) (f t v st) ct)(ts:List Expr):
  ∀ (xs:List V) (rs:Vs) (g:Gs) (st:St),m.aA g xs rs->Np m g st (adk (ts.map λt=>acL t m.env) rs) (lJ f ts xs st) ct:=by
 induction ts with
 |nil=>exactλ_ _ _ _ _=>Np.pure trivial
 |cons t ts ih=>
  intro xs rs g st q
  cases xs with
  |nil=>rw[show rs=[] from q];exact Np.pure trivial
  |cons x xs=>
   obtain⟨r,rs,rfl,a,q⟩:=q
   show Np m g st (abb _ (acL t m.env _)>>=λ_=>adk (ts.map λt=>acL t m.env) _) ((f t x>>=λ_=>lJ f ts xs) st) _
   exact Np.bind (Np.holding (hf t x _ g st a)) λ_ st₁ g₁ _ e1 x₁ _=>ih xs _ g₁ st₁ (aA.mono x₁ q)
theorem Ez(O:bE m){ts:List Expr}{f:Expr->V->M Unit}(hf:∀ (t:Expr) (v:V) (rv:Value) (g:Gs) (st:St),m.VR g v rv->Np m g st (acL t m.env rv) (f t v st) ct)(h1:m.lv=true){a:Nat}{x y:Addr}(hp:g.ρ[a]? =some (x,y)){xs:List V}(hxs:st.H[a]? =some (.tuple xs))(hl:xs.length=ts.length):
  Np m g st (unpack (.ref x) (ts.map λt=>(false,acL t m.env))) (lJ f ts xs st) ct:=by
 intro s Q E R Pp
 obtain⟨rs,ht,hr⟩:=R.inv.tuple hp hxs
 unfold unpack
 have e1:(ts.map λt=>(false,acL t m.env)).length=rs.toArray.size:=by rw[aad,aaE,<-hr.length,hl]
 have e2:(ts.map λt=>(false,acL t m.env)).findIdx? (·.1)=none:=agE.mpr (ahz.mpr λ_ _=>rfl)
 have e3:(ts.map λt=>(false,acL t m.env)).map (·.2)=ts.map λt=>acL t m.env:=abP
 rw[e1,e2,e3]
 refine az (bN (bt (afb (O.df h1) ht λh' hs=>?_)))
 have R':Rel m g st h':=R.keeps λb o e=>hs b o (λz=>nomatch (z▸dP s.heap).symm.trans e) e
 exact Ey hf ts xs rs g st hr {s with heap:=h'} Q E R' (Pp.shift (.refl g))
theorem EA(G:aB m P K mg mb)(H:bf m ev){o i:Expr}{p:Pos}{v:V}{rv:Value}(vv:m.VR g v rv):Np m g st (acL (.Subscript o i p) m.env rv) (ui ev o i v st) ct:=by
 refine tI (motive:=λi w=>Np m g st (acL (.Subscript o i p) m.env rv) (uh ev o i v w st) ct) (λlo hi kH sp=>?_) (λi _=>Ew G H vv) i
 refine Np.aL λhg=>?_
 obtain⟨hg,h3⟩:=aab.mp hg
 obtain⟨h1,h2⟩:=aab.mp hg
 rw[show lo=none from acb.mp h1,show hi=none from acb.mp h2,show kH=none from acb.mp h3]
 exact Ex G H vv
theorem l0(G:aB m P K mg mb)(H:bf m ev)(n:Nat):∀ (t:Expr) (v:V) (rv:Value) (g:Gs) (st:St),m.VR g v rv->Np m g st (acL t m.env rv) (asg P m.lv ev m.sc n t v st) ct:=by
 induction n with
 |zero=>exactλ_ _ _ _ _ _=>Np.no
 |succ n ih=>
  intro t v rv g st vv
  refine ly (motive:=λt w=>Np m g st (acL t m.env rv) (jv P m.lv ev m.sc (asg P m.lv ev m.sc n) v w st) ct) (λx p=>wq G.O vv) (λo a p=>?_) (λo i p=>EA G H vv) (λts k p=>?_) (λ_=>Np.no) t
  ·rw[afH]
   refine Np.bind (Np.holding (H.snd o g st)) λov st₁ g₁ ro e1 x₁ vo=>Np.standAt ?_
   exact Np.after (Np.holding (vh G.PK vo (vv.mono x₁)).np) id (λ_ _ _ h=>h) λ_ s Q E h=>aek h
  ·refine Np.aL λhg=>?_
   obtain⟨h1,h2⟩:=aab.mp hg
   refine Np.bx λa ha=>?_
   subst ha
   refine Np.iI λxs hxs=>Np.aL λhl=>?_
   obtain⟨x,y,rfl,hp⟩:=vv
   rw[arm_assign_Tuple,Eu h2]
   exact Np.standAt (Ez G.O ih h1 hp hxs (of_decide_eq_true hl))
end
end
section
open _root_.PySem.SeqAt
theorem gN{b:Bool}(h:(!b)=true):b=false:=by cases b with |false=>rfl |true=>exact h.symm
theorem EB{α β γ:Type}[BEq α][LawfulBEq α]{F:α->β->γ}{l:List (α×β)}{x:α}:(l.map λp=>(p.1,F p.1 p.2)).lookup x=(l.lookup x).map (F x):=by
 induction l with
 |nil=>rfl
 |cons p r ih=>
  rw[aaH,aay,aay]
  cases h:x==p.1 with
  |true=>rw[beq_iff_eq.mp h];rfl
  |false=>exact ih
noncomputable def l6 (env:Env) (n:Str) (k:aax):aax:=if (k==abB&&env.scope.kind==.function&&env.kindOf n==some .cell)then .cell else k
theorem EC{env:Env}{names:List (Str×aax)}{x:Str}{k:aax}(h:names.lookup x=some k):
  (names.map λ(n,k)=>if (k==abB&&env.scope.kind==.function&&env.kindOf n==some .cell)then (n,aen)else (n,k)).lookup x=some (l6 env x k):=by
 have e:(λ(p:Str×aax)=>match p with | (n,k)=>if (k==abB&&env.scope.kind==.function&&env.kindOf n==some .cell)then (n,aen)else (n,k))=λp=>(p.1,l6 env p.1 p.2):=funext λp=>(apply_ite (Prod.mk p.1) _ _ _).symm
 exact(congrArg (λf=>(names.map f).lookup x) e).trans (EB.trans (congrArg (Option.map (l6 env x)) h))
noncomputable def l8 (env:Env) (acc:List (Str×Addr)) (p:Str×aax):List (Str×Addr):=if (p.2==abB)=true then (p.1,(env.cells.lookup p.1).getD 0)::acc else acc
def iT(env:Env)(names:List (Str×aax))(acc:List (Str×Addr)):List (Str×Addr):=names.foldl (l8 env) acc
theorem ED{env:Env}{names:List (Str×aax)}(h:∀ q∈names,q.2=.free->(env.cells.lookup q.1).isSome=true):∀ (acc:List (Str×Addr)),
  (forIn names acc (λ(q:Str×aax) (cs:List (Str×Addr))=>if (q.2==abB)=true then do let a<-cellOf env q.1;pure (abQ ((q.1,a)::cs))else pure (abQ cs)):Sem (List (Str×Addr)))=pure (iT env names acc):=by
 induction names with
 |nil=>exactλacc=>aeo
 |cons p r ih=>
  intro acc
  have ih:=ih λq hq=>h q (.tail _ hq)
  rw[adw]
  show _=pure (iT env r (l8 env acc p))
  unfold l8
  by_cases hk:(p.2==abB)=true
  ·obtain⟨a,ha⟩:=adj.mp (h p (.head _) (beq_iff_eq.mp hk))
   have e:cellOf env p.1=pure a:=by unfold cellOf;rw[ha]
   rw[if_pos hk,if_pos hk,e,ha]
   exact ih _
  ·rw[if_neg hk,if_neg hk]
   exact ih _
theorem EE{scope:Scope}{env:Env}(h:∀ q∈scope.names,q.2=.free->(env.cells.lookup q.1).isSome=true):ajQ scope env=pure (iT env scope.names []):=by
 unfold ajQ
 rw[<-ED h []]
 exact bind_pure _
theorem EF{env:Env}{names:List (Str×aax)}(h:∀ q∈names,q.2=.free->(env.cells.lookup q.1).isSome=true):∀ (acc:List (Str×Addr)),(∀ q∈acc,env.cells.lookup q.1=some q.2)->∀ q∈iT env names acc,env.cells.lookup q.1=some q.2:=by
 induction names with
 |nil=>exactλacc h=>h
 |cons p r ih=>
  refineλacc ha=>ih (λq hq=>h q (.tail _ hq)) _ ?_
  unfold l8
  by_cases hk:(p.2==abB)=true
  ·rw[if_pos hk]
   obtain⟨a,hc⟩:=adj.mp (h p (.head _) (beq_iff_eq.mp hk))
   exact aas.mpr ⟨by rw[hc];rfl,ha⟩
  ·rw[if_neg hk];exact ha
theorem EG{env:Env}{x:Str}{names:List (Str×aax)}:∀ (acc:List (Str×Addr)),(x,abB)∈names∨(acc.lookup x).isSome=true->((iT env names acc).lookup x).isSome=true:=by
 induction names with
 |nil=>exactλacc h=>h.elim (λh=>nomatch h) id
 |cons p r ih=>
  refineλacc h=>ih _ ?_
  unfold l8
  rcases h with h |h
  ·rcases acB.mp h with rfl |h
   ·right;rw[if_pos (beq_self_eq_true _),aay,beq_self_eq_true];rfl
   ·exact .inl h
  ·right
   by_cases hk:(p.2==abB)=true
   ·rw[if_pos hk,aay]
    cases x==p.1 with
    |true=>rfl
    |false=>exact h
   ·rw[if_neg hk];exact h
theorem EH{env:Env}{names:List (Str×aax)}{x:Str}{a:Addr}(h:∀ q∈names,q.2=.free->(env.cells.lookup q.1).isSome=true)(hx:(x,abB)∈names)(ha:env.cells.lookup x=some a):(iT env names []).lookup x=some a:=by
 obtain⟨b,hb⟩:=adj.mp (EG [] (.inl hx))
 rw[hb,<-ha]
 exact(EF h [] (λ_ q=>nomatch q) (x,b) (mem_of_lookup hb)).symm
theorem ma{sc:Scope}(h:g7 sc=true):(gd (sc.kind=.function) (sc.isGenerator=false) (sc.isCoroutine=false) ((sc.names.map (·.1)).Nodup) (∀ q∈sc.names,(q.1==("__debug__":Str))=false∧(q.1==("__classdict__":Str))=false)):=by
 obtain⟨h,h5⟩:=aab.mp h
 obtain⟨h,h4⟩:=aab.mp h
 obtain⟨h,h3⟩:=aab.mp h
 obtain⟨h1,h2⟩:=aab.mp h
 refine⟨of_decide_eq_true h1,gN h2,gN h3,of_decide_eq_true h4,λq hq=>?_⟩
 have z:=aab.mp (aaV.mp h5 q hq)
 exact⟨gN z.1,gN z.2⟩
theorem lookup_at{l:List (Str×aax)}(nd:(l.map (·.1)).Nodup){i:Nat}{x:Str}{k:aax}(e:l[i]? =some (x,k)):l.lookup x=some k:=by
 induction l generalizing i with
 |nil=>exact ai e
 |cons p r ih=>
  obtain⟨n1,n2⟩:=aaI.mp nd
  rw[aay]
  cases i with
  |zero=>rw[aae.inj e,beq_self_eq_true]
  |succ i=>
   have e':r[i]? =some (x,k):=e
   rw[show(x==p.1)=false from beq_eq_false_iff_ne.mpr λz=>n1 (aau.mpr ⟨_,abw e',z⟩)]
   exact ih n2 e'
abbrev Am.comp(m:Am)(m₀:Str->Option Value)(scope:Scope)(cl:List (Str×Addr))(C:Addr):Am:={m with c:=m.c.at m.c.X ((m.c.N,m₀)::m.c.fs) C,sc:=scope,env:=agp scope cl C m.env}
section
variable {m:Am} {g:Gs} {st:St} {P:a9} {K:Frag} {mg mb:Str->Option Value} {scope:Scope} {cl:List (Str×Addr)} {C:Addr} {m₀:Str->Option Value}
theorem bE.comp(O:bE m)(hs:g7 scope=true):bE (m.comp m₀ scope cl C):=by
 obtain⟨s1,s2,s3,s4,s5⟩:=ma hs
 have key:∀ {x:Str} {k:aax},scope.names.lookup x=some k->(agp scope cl C m.env).kindOf x=some (l6 m.env x k):=λh=>EC h
 refine⟨⟨s1,λx h=>?_,λx h=>?_,λx h=>?_,rfl,O.env.globals,O.env.builtins,s4,s5⟩,O.frames,O.ff,O.fe,λe he=>?_,O.dep,O.hV,O.df,O.fR⟩
 ·rw[key h];rfl
 ·rcases h with h |h
  ·left;rw[key h];rfl
  ·rw[key h]
   unfold l6
   by_cases hc:(abB==abB&&m.env.scope.kind==.function&&m.env.kindOf x==some .cell)=true
   ·rw[if_pos hc];exact .inl rfl
   ·rw[if_neg hc];exact .inr rfl
 ·rw[key h];rfl
 ·obtain⟨h1,a,h2,h3⟩:=O.fk e he
  refine⟨h1,a,h2,?_⟩
  right
  rw[aaH]
  exact h3
theorem aB.comp(G:aB m P K mg mb)(hs:g7 scope=true):aB (m.comp m₀ scope cl C) P K mg mb:=⟨G.O.comp hs,G.PK.at,G.sys⟩
def q7(c':Cx)(g':Gs)(env env':Env)(p:Str×aax)(v:Option V):Prop:=aO (p.2=.local->cN c' g' v (g'.m p.1))
 (p.2=.free->cW λa b z=>cB (v=some (V.ref a)) (g'.ρ[a]? =some (b,z)) (env'.cells.lookup p.1=some b) ((env.cells.lookup p.1).isSome=true)) (p.2≠.cell)
structure CompI(c':Cx)(g':Gs)(env env':Env)(names:List (Str×aax))(lo':Lo):Prop where
 len:lo'.length=names.length
 loc:∀ (i:Nat) (y:Str) (v:Option V),names[i]? =some (y,aax.local)->lo'[i]? =some v->cN c' g' v (g'.m y)
 cx:∀ (i:Nat) (y:Str) (k:aax),names[i]? =some (y,k)->k=.cell∨k=.free->∃ a b z,lo'[i]? =some (some (V.ref a))∧g'.ρ[a]? =some (b,z)∧env'.cells.lookup y=some b
 free:∀ q∈names,q.2=.free->(env.cells.lookup q.1).isSome=true
 EI:∀ q∈names,q.2≠.cell
theorem EJ{sc:Scope}{lo:Lo}{env:Env}{c:Cx}(l:Loc c sc env g lo){g':Gs}(x:Ext g g')(hm:∀ y,g'.m y=none){env':Env}{c':Cx}{p:Str×aax}(hcl:∀ (a:Addr),p.2=abB->env.cells.lookup p.1=some a->env'.cells.lookup p.1=some a)
  {v:Option V} (e:pN sc lo p.1 p.2=some v):q7 c' g' env env' p v:=by
 obtain⟨y,k⟩:=p
 cases k with
 | «local»=>rw[<-aae.inj e];exact⟨λ_=>by rw[hm];exact .none,λz=>abc z,λz=>abc z⟩
 |globalImplicit=>exact⟨λz=>abc z,λz=>abc z,λz=>abc z⟩
 |free=>
  refine⟨λz=>abc z,λz=>?_,λz=>abc z⟩
  replace e:(match de sc y with | .cx i=>lo[i]?.join.map some |_=>none)=some v:=e
  have nr:=nC sc y
  generalize de sc y=r at e nr
  cases r with
  |cx i=>
   obtain⟨_,a,hk,_⟩:=nr
   obtain⟨aa,bb,zz,q1,q2,q3⟩:=l.cx i y _ a hk
   replace e:lo[i]?.join.map some=some v:=e
   rw[q1]at e
   have e:some (V.ref aa)=v:=aae.inj e
   exact⟨aa,bb,zz,e.symm,x.at q2,hcl bb rfl q3,by rw[q3];rfl⟩
  |_=>exact ai e
 |_=>exact ai e
theorem EL{sc:Scope}{lo:Lo}{Q:Str×aax->Option V->Prop}{names:List (Str×aax)}(h:∀ p∈names,∀ v,pN sc lo p.1 p.2=some v->Q p v):∀ {lo':Lo},g8 sc lo names=some lo'->aQ Q names lo':=by
 induction names with
 |nil=>exactλe=>aae.inj e▸.nil
 |cons p r ih=>
  intro lo' e
  obtain⟨v,e1,e⟩:=aaj.mp e
  obtain⟨l',e2,rfl⟩:=aaR.mp e
  exact .cons (h p (.head _) v e1) (ih (λp hp=>h p (.tail _ hp)) e2)
theorem wt{sc:Scope}{lo:Lo}{env:Env}{c:Cx}(l:Loc c sc env g lo){g':Gs}(x:Ext g g')(hm:∀ y,g'.m y=none){env':Env}{c':Cx}{names:List (Str×aax)}(hcl:∀ (y:Str) (a:Addr),(y,abB)∈names->env.cells.lookup y=some a->env'.cells.lookup y=some a)
  {lo':Lo} (e:g8 sc lo names=some lo'):CompI c' g' env env' names lo':=by
 have q:aQ (q7 c' g' env env') names lo':=EL (λp hp v ev=>EJ l x hm (λa hk=>hcl p.1 a (hk▸hp)) ev) e
 have mem:∀ p∈names,∃ v,q7 c' g' env env' p v:=λp hp=>by
  obtain⟨i,hi⟩:=abG hp
  obtain⟨v,_,h⟩:=q.get hi
  exact⟨v,h⟩
 refine⟨q.length.symm,λi y v a b=>?_,λi y k a b=>?_,λp hp hf=>?_,λp hp=>?_⟩
 ·obtain⟨v',h1,h2⟩:=q.get a
  exact aae.inj (h1.symm.trans b)▸h2.1 rfl
 ·obtain⟨v',h1,h2⟩:=q.get a
  rcases b with b |b
  ·exact absurd b h2.3
  ·obtain⟨a,b,z,rfl,h3,h4,_⟩:=h2.2 b
   exact⟨a,b,z,h1,h3,h4⟩
 ·obtain⟨v,h⟩:=mem p hp
  obtain⟨_,_,_,_,_,_,h⟩:=h.2 hf
  exact h
 ·obtain⟨v,h⟩:=mem p hp
  exact h.3
end
end
section
open _root_.PySem.SeqAt
def fg{α:Type}(m:Am)(g:Gs)(r:R α)(Q:Sh)(s:aaC):Prop:=match r with
 | .ok _ st'=>∀ g' h' tk,Ext g g'->Rel m g' st' h'->Q {s with heap:=h',toks:=tk}
 | .exc _ _=>False
 | .no=>False
theorem fg.shift{α:Type}{m:Am}{g g₁:Gs}{r:R α}{Q:Sh}{s:aaC}(x:Ext g g₁){h:Heap}{tk:Tok}(P:fg m g r Q s):fg m g₁ r Q {s with heap:=h,toks:=tk}:=by
 cases r with
 |ok a st'=>exactλg' h' tk' e R=>P g' h' tk' (x.trans e) R
 |exc k st'=>exact P.elim
 |no=>exact P.elim
theorem fg.imp{α:Type}{m:Am}{g:Gs}{r:R α}{Q Q':Sh}{s:aaC}(P:fg m g r Q s)(h:∀ s,Q s->Q' s):fg m g r Q' s:=by
 cases r with
 |ok a st'=>exactλg' h' tk' e R=>h _ (P g' h' tk' e R)
 |exc k st'=>exact P.elim
 |no=>exact P.elim
section
variable {m:Am} {g:Gs} {st:St} {os:List (Addr×Obj)} {P:a9} {K:Frag} {mg mb:Str->Option Value}
theorem Walk.EM{β:Type}{g₀:Gs}{tgt:Expr}{itv:Value}{draw:V->M V}{bB:M Unit}{W:List (Addr×Obj)->List V->Prop}(w:Walk m g₀ tgt itv draw bB W)
  {v:V} {vs:List V} {st₁:St} {x:V} {s:aaC} {Q:β->Sh} {E:Value->Sh} {n:Sem β} {k:Value->Sem β}
  (x₀:Ext g₀ g) (hW:W os (v::vs)) (R:Rel (m.x os) g st s.heap) (hc:bB st=.ok () st) (hd:draw v st=.ok x st₁)
  (h:∀ g' h' tk b os',Ext g g'->W os' vs->Rel (m.x os') g' st₁ h'->m.VR g' x b->ao (model m.c.prog m.c.w) m.A (k b) Q E {s with heap:=h',toks:=tk}):
  ao (model m.c.prog m.c.w) m.A (ahM itv>>=λr=>match r with |none=>n |some v=>acA tgt itv v>>=λ_=>k v) Q E s:=by
 refine aC (agB (w.next g os v vs st st₁ x s (λb s₁=>ao (model m.c.prog m.c.w) m.A (k b) Q E s₁) (λ_ _=>False) E x₀ hW R hc hd h) (λr s₁ h₁=>?_) λ_ _ z=>z.elim)
 obtain⟨b,rfl,h₁⟩:=h₁
 exact aC h₁
theorem EN{env:Env}(l:List Expr):(forIn l false λc r=>if r=true then do let ok<-agV c env (eval c env);pure (abQ ok)else pure (abQ r):Sem Bool)=pure false:=by
 induction l with
 |nil=>rw[aeo]
 |cons a l ih=>rw[adw];exact ih
theorem EO{env:Env}{f:Expr->M Bool}(H:∀ e,dr m (agV e env (eval e env)) (f e) fU)(ifs:List Expr):∀ (g:Gs) (st:St),
  Np m g st (forIn ifs true λc r=>if r=true then do let ok<-agV c env (eval c env);pure (abQ ok)else pure (abQ r)) (ju f .And ifs st) fU:=by
 induction ifs with
 |nil=>exactλg st=>by rw[aeo];exact Np.pure rfl
 |cons e r ih=>
  intro g st
  rw[adw]
  show Np m g st ((agV e env (eval e env)>>=λok=>pure (abQ ok))>>=_) ((f e>>=λt=>if lI .And t then aak t else ju f .And r) st) _
  refine dA (Np.bind (H e g st) λb st₁ g₁ b' e1 x hb=>fJ ?_)
  rw[<-show b=b' from hb]
  cases b with
  |true=>exact ih g₁ st₁
  |false=>
   show Np m g₁ st₁ (forIn r false _) ((aak false:M Bool) st₁) _
   rw[EN]
   exact Np.pure rfl
theorem EP(G:aB m P K mg mb)(hv:m.A.handled=none){a y:V}{ra ry:Value}(va:m.VR g a ra)(vy:m.VR g y ry):Np m g st (aal (.builtin "list.append") [ra,ry]) (bi P "list.append" [a,y] st) m.VR:=
 vO G.O (λ_=>hv) G.sys (.cons va (.cons vy .nil)) (λz=>nomatch z)
theorem ER(G:∀ os,aB (m.x os) P K mg mb){g₀:Gs}{t it elt:Expr}{ifs:List Expr}{scope:Scope}{pos:Pos}{itv:Value}{bB:M Unit}{W:List (Addr×Obj)->List V->Prop}
  {tgt':V->M Unit} {f:Expr->M Bool} {elt':M V} {acc:V} {racc:Value} (hv:m.A.handled=none) (w:Walk m g₀ t itv pure bB W) (va:m.VR g₀ acc racc)
  (ht:∀ os g st x rx,m.VR g x rx->Np (m.x os) g st (acL t m.env rx) (tgt' x st) ct)
  (hi:∀ os e,dr (m.x os) (agV e m.env (eval e m.env)) (f e) fU)
  (he:∀ os,dr (m.x os) (eval elt m.env) elt' (m.x os).VR) (vs:List V):
  ∀ (g:Gs) (os:List (Addr×Obj)) (st:St) (s:aaC) (R:aez->Sh),Ext g₀ g->W os vs->Rel (m.x os) g st s.heap->
   fg m g (loop bB (gm P tgt' f ifs elt' acc) vs st) (λs'=>R (.ok .next) s') s->
   codeN (model m.c.prog m.c.w) m.A (.compLoop (.ListComp elt [⟨t,it,ifs,0⟩] scope pos) 0 itv racc m.env) R s:=by
 induction vs with
 |nil=>
  intro g os st s R x₀ hW Rl Pp
  refine fy ?_ rfl
  show ao _ m.A ((compTurn (.ListComp elt [⟨t,it,ifs,0⟩] scope pos) 0 itv racc m.env).onRaise (λx=>do adH x m.env;adh x)) _ _ s
  refine gG ?_
  rw[compTurn_list]
  replace Pp:fg m g ((bB>>=λ_=>aak none) st) (λs'=>R (.ok .next) s') s:=Pp
  rcases w.calm st with hc |hc
  ·rw[cb hc]at Pp
   refine cV (aC (w.fin g os st s _ _ x₀ hW Rl hc λh' R'=>?_))
   exact aK (Pp g h' s.toks (.refl g) R')
  ·rw[eG hc]at Pp;exact Pp.elim
 |cons v vs ih=>
  intro g os st s R x₀ hW Rl Pp
  refine fy ?_ rfl
  show ao _ m.A ((compTurn (.ListComp elt [⟨t,it,ifs,0⟩] scope pos) 0 itv racc m.env).onRaise (λx=>do adH x m.env;adh x)) _ _ s
  refine gG ?_
  rw[compTurn_list]
  have en:loop bB (gm P tgt' f ifs elt' acc) (v::vs)=(bB>>=λ_=>tgt' v>>=λ_=>ju f .And ifs>>=λok=>(if ok then elt'>>=λy=>bi P "list.append" [acc,y]>>=λ_=>aak none else aak none)>>=stepK bB (gm P tgt' f ifs elt' acc) vs):=by
   rw[nU]
   unfold gm
   simp only[M.bind_assoc]
  rw[en]at Pp
  clear en
  have hL0:∀ st,stepK bB (gm P tgt' f ifs elt' acc) vs none st=loop bB (gm P tgt' f ifs elt' acc) vs st:=λ_=>rfl
  generalize loop bB (gm P tgt' f ifs elt' acc) vs=L at ih hL0
  generalize stepK bB (gm P tgt' f ifs elt' acc) vs=L0 at Pp hL0
  rcases w.calm st with hc |hc
  ·rw[cb hc]at Pp
   refine cV (w.EM (x:=v) (st₁:=st) x₀ hW Rl hc rfl λg₁ h₁ tk1 b os1 x₁ hW1 R₁ hx=>?_)
   refine az ((ht os1 g₁ st v b hx).use (s:={s with heap:=h₁,toks:=tk1}) R₁ (λu st2 e2 g₂ h₂ tk2 u' x₂ R₂ _=>?_) (λk st2 e2 g₂ h₂ tk2 e x₂ R₂ X=>?_) λe2=>?_)
   ·rw[cb e2]at Pp
    refine az ((EO (hi os1) ifs g₂ st2).use (s:={s with heap:=h₂,toks:=tk2}) R₂ (λok st3 e3 g₃ h₃ tk₃ ok' x₃ R₃ q₃=>?_) (λk st3 e3 g₃ h₃ tk₃ e x₃ R₃ X=>?_) λe3=>?_)
    ·rw[cb e3]at Pp
     rw[<-show ok=ok' from q₃]
     have x03:Ext g g₃:=x₁.trans (x₂.trans x₃)
     cases ok with
     |false=>
      replace Pp:fg m g (L0 none st3) (λs'=>R (.ok .next) s') s:=Pp
      rw[hL0]at Pp
      exact aK ⟨rfl,ih g₃ os1 st3 {s with heap:=h₃,toks:=tk₃} R (x₀.trans x03) hW1 R₃ (Pp.shift x03)⟩
     |true=>
      replace Pp:fg m g (((elt'>>=λy=>bi P "list.append" [acc,y]>>=λ_=>aak none)>>=L0) st3) (λs'=>R (.ok .next) s') s:=Pp
      rw[M.bind_assoc]at Pp
      show ao _ m.A ((eval elt m.env>>=λy=>aal (.builtin "list.append") [racc,y]>>=λ_=>pure ())>>=λ_=>again _) _ _ _
      refine qW (az ((he os1 g₃ st3).use (s:={s with heap:=h₃,toks:=tk₃}) R₃ (λy st4 e4 g₄ h₄ tk₄ ry x₄ R4 q₄=>?_) (λk st4 e4 g₄ h₄ tk₄ e x₄ R4 X=>?_) λe4=>?_))
      ·rw[cb e4,M.bind_assoc]at Pp
       have x04:Ext g g₄:=x03.trans x₄
       refine qW (az ((EP (m:=m.x os1) (G os1) hv (va.mono (x₀.trans x04)) q₄).use (s:={s with heap:=h₄,toks:=tk₄}) R4 (λu st5 e5 g5 h₅ tk5 ru x₅ R5 q₅=>?_) (λk st5 e5 g5 h₅ tk5 e x₅ R5 X=>?_) λe5=>?_))
       ·rw[cb e5]at Pp
        replace Pp:fg m g (L0 none st5) (λs'=>R (.ok .next) s') s:=Pp
        rw[hL0]at Pp
        have x05:Ext g g5:=x04.trans x₅
        exact aC (aai (aK ⟨rfl,ih g5 os1 st5 {s with heap:=h₅,toks:=tk5} R (x₀.trans x05) hW1 R5 (Pp.shift x05)⟩))
       ·rw[fV e5]at Pp;exact Pp.elim
       ·rw[eG e5]at Pp;exact Pp.elim
      ·rw[fV e4]at Pp;exact Pp.elim
      ·rw[eG e4]at Pp;exact Pp.elim
    ·rw[fV e3]at Pp;exact Pp.elim
    ·rw[eG e3]at Pp;exact Pp.elim
   ·rw[fV e2]at Pp;exact Pp.elim
   ·rw[eG e2]at Pp;exact Pp.elim
  ·rw[eG hc]at Pp;exact Pp.elim
end
end
section
open _root_.PySem.SeqAt
theorem wu{env:Env}{x:Value}(it:Expr):(it.ctorIdx==7)=false->aeN it env x=pure x:=
 aaO (motive_1:=λit=>(it.ctorIdx==7)=false->aeN it env x=pure x) it (λ_ _ _ _=>rfl) (λ_ _ _ _=>rfl) (λ_ _ _ _ _=>rfl) (λ_ _ _ _=>rfl) (λ_ _ _ _ _=>rfl) (λ_ _ _ _ _=>rfl) (λ_ _ _ _=>rfl) (λ_ _ _ h=>aaa h) (λ_ _ _ _ _=>rfl) (λ_ _ _ _ _=>rfl) (λ_ _ _ _ _ _=>rfl) (λ_ _ _ _ _=>rfl) (λ_ _ _=>rfl) (λ_ _ _=>rfl) (λ_ _ _=>rfl) (λ_ _ _ _ _=>rfl) (λ_ _ _ _ _=>rfl) (λ_ _ _ _ _=>rfl) (λ_ _ _=>rfl) (λ_ _ _ _=>rfl) (λ_ _ _ _=>rfl) (λ_ _ _ _=>rfl) (λ_ _ _=>rfl) (λ_ _ _=>rfl) (λ_ _ _=>rfl) (λ_ _ _ _=>rfl) (λ_ _ _ _ _=>rfl)
section
variable {m:Am} {g:Gs} {st:St} {os:List (Addr×Obj)} {P:a9} {K:Frag} {mg mb:Str->Option Value} {C:Ct} {lv:Bool}
theorem wx(v:V):Still (iter v):=.bind (.aG _) λa=>.bind (.obj a) λo=>by
 cases o with
 |list xs=>exact .bind (fD _) λ_=>.pure _
 |range b c d=>exact .bind (fD _) λ_=>.pure _
 |_=>exact .no
theorem wy{prog:acI}{w:World}{A:aaY}{R:aez->Sh}{s:aaC}{elt target iter ifs rest scope pos acc env}{it:Addr}
  (h0:codeN (model prog w) A (.compLoop (.ListComp elt (⟨target,iter,ifs,0⟩::rest) scope pos) 0 (.ref it) acc env) R s)
  (h:∀ (A:aaY) (Q:Value->Sh) (E:Value->Sh),Q (.ref it) s->wpAny (model prog w) A (ago (.ref it)) Q E s):
  codeN (model prog w) A (.compStart (.ListComp elt (⟨target,iter,ifs,0⟩::rest) scope pos) 0 (.ref it) acc env) R s:=by
 refine fy ?_ rfl
 show ao _ A ((compStart (.ListComp elt (⟨target,iter,ifs,0⟩::rest) scope pos) 0 (.ref it) acc env).onRaise (λx=>do adH x env;acr theWindowsPlace)) _ _ s
 refine gG ?_
 unfold compStart
 show ao _ _ (ask>>=_) _ _ s
 refine aC (akk ?_)
 dsimp only[bZ]
 cases hc:({program:=(model prog w).prog,params:=(model prog w).w.params}:Setting).params.followText "comprehension-iter-twice" with
 |true=>exact j7 rfl (aK (aiW rfl h0))
 |false=>exact dc rfl (aC (acK (cV (aC (h A _ _ (aK (aiW rfl h0)))))))
noncomputable def md {α:Type} (v:V) (lo:Lo):R α->R V
 | .ok _ s=>.ok v {s with lo:=lo}
 | .exc _ _=>.no
 | .no=>.no
theorem ES{α:Type}{f:M α}{lo':Lo}{v:V}{st:St}:(inBlock lo' f>>=λ_=>(pure v:M V)) st=md v st.lo (f {st with lo:=lo'}):=by
 show M.bind (inBlock lo' f) (λ_=>(pure v:M V)) st=_
 unfold M.bind inBlock
 cases f {st with lo:=lo'}<;>rfl
noncomputable abbrev Gs.bare (g:Gs):Gs:={g with m:=λx=>([]:List (Str×Value)).reverse.lookup x}
noncomputable abbrev kI:Obj:={cls:=.type "list",data:=.seq ([]:Vs).toArray}
theorem ET{g':Gs}{scope:Scope}{cl:List (Str×Addr)}{C1:Addr}{m₀:Str->Option Value}{H:Hp}{h:Heap}(I:Inv (m.comp m₀ scope cl C1).c g' H h):bc m.c {g' with m:=m₀} H C1:=by
 have e:cells (m.comp m₀ scope cl C1).c g' H=(C1,b9 g'.m)::cells m.c {g' with m:=m₀} H:=lT (c:=m.c) (g:={g' with m:=m₀}) (m':=g'.m) (L:=C1) (H:=H)
 have nd:=e▸I.dp
 exact⟨λx hx z=>(aaI.mp nd).1 (aau.mpr ⟨x,hx,z⟩),I.low (C1,b9 g'.m) (e▸.head _)⟩
def CompEnd(m:Am)(g g₂:Gs)(C:Addr)(lo:Lo)(v:V)(Φ:R V->Prop)(s s':aaC):Prop:=
 d9 λ(st':St) (g':Gs) (m₁:Str->Option Value) (tk:Tok)=>lq (s'={s with heap:=s'.heap,toks:=tk}) (s'.heap.Ns C m₁) (Ext g₂ g') (Φ (.ok v {st' with lo:=lo}))
  (∀ h'' m'',h''.Ns C m''->acD C s'.heap h''->Rel m {g' with m:=g.m} {st' with lo:=lo} h'') (bc m.c {g' with m:=g.m} st'.H C)
theorem wz{g₂:Gs}{C1:Addr}{lo:Lo}{v:V}{Φ:R V->Prop}{scope:Scope}{cl:List (Str×Addr)}{s:aaC}{h:Heap}{tk:Tok}{r:Lite.R (Option Unit)}(l:Loc m.c m.sc m.env g lo)(x:Ext g g₂)(ha:m.c.b₀.objs.size<=m.c.N)(h0:Φ .no->False)
  (hr:Φ (md v lo r)):fg (m.comp g.m scope cl C1) g₂ r (CompEnd m g g₂ C1 lo v Φ s) {s with heap:=h,toks:=tk}:=by
 cases r with
 |exc c s'=>exact h0 hr
 |no=>exact h0 hr
 |ok a st'=>exactλg' h' tk xx Rf=>⟨st',g',g'.m,tk,rfl,Rf.inv.ns,xx,hr,λh'' m'' hn hs=>⟨Inv.exit (c:=m.c) (m₀:=g.m) (g:={g' with m:=m''}) (Rf.inv.uK hs.2 hn) ha,l.mono ⟨x.ρ.trans xx.ρ⟩ rfl⟩,ET Rf.inv⟩
theorem EU{h₂ h₃:Heap}{scope:Scope}{cl:List (Str×Addr)}{lo':Lo}{H:Hp}(lo:Loc m.c m.sc m.env g st.lo)(R:Rel (m.x os) g {st with H:=H} h₂)(hcl:∀ (y:Str) (a:Addr),(y,abB)∈scope.names->m.env.cells.lookup y=some a->cl.lookup y=some a)
  (e:g8 m.sc st.lo scope.names=some lo') (hk:∀ b o,h₂.get? b=some o->h₃.get? b=some o) (hsz:m.c.b₀.objs.size<=h₂.objs.size) (hns:h₃.Ns h₂.objs.size g.bare.m):Rel ((m.comp g.m scope cl h₂.objs.size).x os) g.bare {lo:=lo',H:=H} h₃:=by
 have l:=wt (c':=((m.comp g.m scope cl h₂.objs.size).x os).c) lo (g':=g.bare) ⟨adt⟩ (λ_=>rfl) (env':=agp scope cl h₂.objs.size m.env) hcl e
 exact⟨Inv.enter (c:=(m.x os).c) R.inv (dP _) hk hns hsz,l.len,l.loc,l.cx⟩
theorem wA{scope:Scope}{cl:List (Str×Addr)}{C1:Addr}(nd:(scope.names.map (·.1)).Nodup):∀ x∈(scope.names.filter λx=>(x.2==.local||x.2==.cell)&&x.1 != (".0":Str)).reverse,x.2=.local->Env.kindOf (agp scope cl C1 m.env) x.1=some .local:=λx hx hl=>by
 obtain⟨i,hi⟩:=abG (aeQ.mp (List.mem_reverse.mp hx)).1
 exact lookup_relabel_local (lookup_at nd (hi.trans (congrArg (λk=>some (x.1,k)) hl)))
theorem wB{Pr:R V->Prop}{evn:Scope->Expr->M V}{n:Nat}{elt tg:Expr}{ifs:List Expr}{scope:Scope}{x:V}(h0:Pr .no)(h:∀ io lo',(m.lv&&g7 scope)=true->iter x st=.ok io st->g8 m.sc st.lo scope.names=some lo'->
  Pr (md (.ref st.H.length) st.lo (loop (bI io.2) (gm P (asg P m.lv (evn scope) scope 3 tg) (gK (evn scope) n) ifs (evn scope elt) (.ref st.H.length)) io.1 {lo:=lo',H:=st.H++[.list []]}))):
  Pr (comp P m.lv evn n m.sc elt tg ifs scope x st):=
 gq (Pr:=Pr) (fD _) h0 λ_ hg=>gq (Pr:=Pr) (wx x) h0 λio e2=>gM (st:={st with H:=st.H++[.list []]}) (Pr:=Pr) h0 λlo' e3=>by
  rw[ES]
  have e2:iter x st=.ok io st:=e2
  exact h io lo' (hU hg) e2 e3
noncomputable def wC (o:Option Pos) (t:Sem Value):Sem Value:=match o with
 |none=>t
 |some p=>acr p>>=λ_=>t
theorem EW{M:Model}{A:aaY}{o:Option Pos}{t:Sem Value}{s:aaC}{Q E:Value->Sh}(h:ao M A t Q E s):ao M A (wC o t) Q E s:=by
 cases o with
 |none=>exact h
 |some p=>exact cV h
theorem wD{M:Model}{A:aaY}{vs vs':Vs}{code:Code}{k:Except Value Flow->Sem Value}{Q E:Value->Sh}{R:aez->Sh}{s:aaC}(hc:codeN M A code R s)(h:∀ r s',R r s'->(match r with | .ok a=>ao M A (k (.ok a)) Q E s' | .error e=>ao M A (k (.error e)) Q E s')):
  ao M A (ace vs ((ace vs' (PySem.run code)).attempt>>=k)) Q E s:=bN (az (tG (bN (pe (gc hc λr s' q=>h r s' q) nofun))))
def n4(m:Am)(g:Gs)(st:St)(t:Expr)(scope:Scope)(lo':Lo)(io:List V×Option (Nat×List V))(os:List (Addr×Obj))(W:List (Addr×Obj)->List V->Prop)(cl:List (Str×Addr))(C1:Addr)(g₂:Gs)(it' ra:Addr)(h:Heap):Prop:=j8
 (W os io.1) (Rel ((m.comp g.m scope cl C1).x os) g₂ {lo:=lo',H:=st.H++[.list []]} h) (VR m.c g₂ (.ref st.H.length) (.ref ra)) (bE (m.comp g.m scope cl C1)->Walk (m.comp g.m scope cl C1) g₂ t (.ref it') pure (bI io.2) W)
 (Ext g g₂) (Loc m.c m.sc m.env g st.lo) (m.c.b₀.objs.size<=m.c.N) (∀ (A:aaY) (s:aaC) (Q E:Value->Sh),s.heap=h->Q (.ref it') s->wpAny (model m.c.prog m.c.w) A (ago (.ref it')) Q E s)
theorem wF(op:Option Pos)(O:bE m)(hv:m.A.handled=none){it t:Expr}{scope:Scope}{pos:Pos}{rx:Value}{x:V}{io:List V×Option (Nat×List V)}{lo':Lo}{k:Value->Value->Env->Sem Value}(hset:(it.ctorIdx==7)=false)(sk:scope.kind=.function)(vx:m.VR g x rx)(e2:iter x st=.ok io st)(e3:g8 m.sc st.lo scope.names=some lo')
  {s:aaC} {Q E:Value->Sh} (R₁:Rel m g st s.heap)
  (hk:∀ os W cl C1 g₂ it' ra h tk,n4 m g st t scope lo' io os W cl C1 g₂ it' ra h->ao (model m.c.prog m.c.w) m.A (k (.ref it') (.ref ra) (newEnv scope C1 m.env.globals cl m.env.qual none .none (some m.env) m.env.builtins)) Q E {s with heap:=h,toks:=tk}):
  ao (model m.c.prog m.c.w) m.A ((pure rx:Sem Value)>>=λx=>acr pos>>=λ_=>aeN it m.env x>>=λx=>ace [x] (ago x)>>=λit=>wC op (aih []>>=λacc=>ajQ scope m.env>>=λcl=>aht scope m.env.globals cl [] m.env.qual none .none (some m.env)>>=λcenv=>k it acc cenv)) Q E s:=by
 refine aC (aai (cV (aC (aaB (wu it hset) ?_))))
 refine az (bN (bt (wo O hv vx e2 R₁ λh₂ itA hB=>?_)))
 obtain⟨os,W,keep,R₂,hW,walk,self⟩:=hB
 refine EW (aC (wpAny_newList ?_ (by decide)))
 have R₃:Rel (m.x os) (g.lay (h₂.objs.size,h₂.objs.size)) {st with H:=st.H++[.list []]} (h₂.push kI):=R₂.vq (o:=.list []) (ob:=kI) rfl rfl ⟨[],0,rfl,.nil⟩
 have hlast:=R₂.last (p:=(h₂.objs.size,h₂.objs.size))
 have xg:=fc g (h₂.objs.size,h₂.objs.size)
 have l4:=(wt (c':=m.c) R₁.loc (g':=g.bare) ⟨adt⟩ (λ_=>rfl) (env':=m.env) (λ_ _ _ h=>h) e3)
 refine aC (aaB (EE l4.free) (aC (wpAny_newFunctionEnv l4.EI (λx hx=>nomatch hx) (λh₃ hns hsb=>?_) sk)))
 have keepH:∀ b ob,(h₂.push kI).get? b=some ob->h₃.get? b=some ob:=λb ob e=>hsb.extBut b ob (abY (abN e)) (aaF _ e)
 have hsz:m.c.b₀.objs.size<=(h₂.push kI).objs.size:=by
  obtain⟨ob,h2,_⟩:=R₃.inv.sat (m.c.N,b9 g.m) (.head _)
  exact acR (aba R₃.inv.above (abN h2))
 exact hk os W (iT m.env scope.names []) (h₂.push kI).objs.size (g.lay (h₂.objs.size,h₂.objs.size)).bare itA h₂.objs.size h₃ _ ⟨hW,EU (g:=g.lay (h₂.objs.size,h₂.objs.size)) (R₁.loc.mono xg rfl) R₃ (λy a hy ha=>EH l4.free hy ha) e3 keepH hsz hns,VR.ref hlast,λh=>walk (m.comp g.m scope (iT m.env scope.names []) (h₂.push kI).objs.size) rfl rfl rfl rfl hv h _ t ⟨xg.ρ⟩,⟨xg.ρ⟩,R₁.loc,R₁.inv.above,λA s Q E e hq=>self A s Q E (λob e'=>e▸keepH _ _ (aaF _ e')) hq⟩
theorem EY(O:bE m)(hv:m.A.handled=none){elt t it:Expr}{ifs:List Expr}{scope:Scope}{pos pos':Pos}{rx:Value}{x:V}{io:List V×Option (Nat×List V)}{lo':Lo}{r:Lite.R (Option Unit)}(hset:(it.ctorIdx==7)=false)(sk:scope.kind=.function)(nd:(scope.names.map (·.1)).Nodup)
  (vx:m.VR g x rx) (e2:iter x st=.ok io st) (e3:g8 m.sc st.lo scope.names=some lo')
  (hL:∀ os W cl C1 g₂ it' ra (s:aaC) (Q:Sh),n4 m g st t scope lo' io os W cl C1 g₂ it' ra s.heap->fg (m.comp g.m scope cl C1) g₂ r Q s->
   codeN (model m.c.prog m.c.w) m.A (.compLoop (.ListComp elt [⟨t,it,ifs,0⟩] scope pos) 0 (.ref it') (.ref ra) (agp scope cl C1 m.env)) (λr s'=>r=.ok .next∧Q s') s):
  Np m g st (afc (.ListComp elt [⟨t,it,ifs,0⟩] scope pos) scope m.env pos' (aih []) false (pure rx)) (md (.ref st.H.length) st.lo r) m.VR:=by
 intro s Q E R₁ Pp
 refine wF none O hv hset sk vx e2 e3 R₁ λos W cl C1 g₂ itA ra h tk B=>wD (wy (hL os W cl C1 g₂ itA _ _ _ B (wz (Φ:=λr=>bW m g r m.VR Q E s) B.p6 B.p5 B.p7 (λh=>h) Pp)) λA Q E hq=>B.p8 A _ Q E rfl hq) λr s' hr=>?_
 obtain⟨rfl,st',g',m₁,tk,hs',hn',xg',hp,hrel, -⟩:=hr
 refine az (bN (bt (akl sk _ s' m₁ (wA nd) hn' λh'' m'' hn'' hs''=>aK ?_)))
 rw[hs']
 exact hp {g' with m:=g.m} h'' tk _ ⟨(B.p5.trans xg').ρ⟩ (hrel h'' m'' hn'' hs'') ((VR.mono xg' B.p3))
theorem EZ(O:bE m)(hv:m.A.handled=none){elt t it:Expr}{ifs:List Expr}{scope:Scope}{pos pos':Pos}{rx:Value}{x:V}{io:List V×Option (Nat×List V)}{lo':Lo}{r:Lite.R (Option Unit)}(hset:(it.ctorIdx==7)=false)(sk:scope.kind=.function)(nd:(scope.names.map (·.1)).Nodup)
  {u:Value->Sem Unit} {f:V->M Unit} (hu:∀ os g st v r,m.VR g v r->Np (m.x os) g st (u r) (f v st) ct)
  (vx:m.VR g x rx) (e2:iter x st=.ok io st) (e3:g8 m.sc st.lo scope.names=some lo')
  (hL:∀ os W cl C1 g₂ it' ra (s:aaC) (Q:Sh),n4 m g st t scope lo' io os W cl C1 g₂ it' ra s.heap->fg (m.comp g.m scope cl C1) g₂ r Q s->
   codeN (model m.c.prog m.c.w) m.A (.compLoop (.ListComp elt [⟨t,it,ifs,0⟩] scope pos) 0 (.ref it') (.ref ra) (agp scope cl C1 m.env)) (λr s'=>r=.ok .next∧Q s') s):
  Np m g st (afc (.ListComp elt [⟨t,it,ifs,0⟩] scope pos) scope m.env pos' (aih []) false (pure rx) (some u)>>=λ_=>pure ()) (M.bind (λ_=>md (.ref st.H.length) st.lo r) f st) ct:=by
 intro s Q E R₁ Pp
 refine az ?_
 refine wF (some pos) O hv hset sk vx e2 e3 R₁ λos W cl C1 g₂ itA ra h tk B=>wD (wy (hL os W cl C1 g₂ itA _ _ _ B (wz (Φ:=λr=>bW m g (M.bind (λ_=>r) f st) ct Q E s) B.p6 B.p5 B.p7 (λh=>h) Pp)) λA Q E hq=>B.p8 A _ Q E rfl hq) λr s' hr=>?_
 obtain⟨rfl,st',g',m₁,tk,hs',hn',xg',hp,hrel,hfree⟩:=hr
 obtain⟨oC,esC,epC,hC,hC2⟩:=hn'
 have R0:=hrel s'.heap m₁ ⟨oC,esC,epC,hC,hC2⟩ (.refl _ _)
 have RX:Rel (m.x [(C1,oC)]) {g' with m:=g.m} {st' with lo:=st.lo} s'.heap:=R0.x0.lW hfree hC
 have xg2:Ext g {g' with m:=g.m}:=⟨(B.p5.trans xg').ρ⟩
 show ao _ m.A (rule "comprehension.stores-exchanged">>=λ_=>ace _ (u (.ref ra))>>=λ_=>afc.letGo _ _ (_++_)>>=λ_=>pure abo) _ _ _
 refine aC (acK (az (bN ?_)))
 refine(hu [(C1,oC)] {g' with m:=g.m} {st' with lo:=st.lo} (.ref st.H.length) (.ref ra) (VR.mono (g':={g' with m:=g.m}) ⟨xg'.ρ⟩ B.p3)).use RX (λa st2 e4 g₃ h₂ tk2 b x₃ R₃ q₂=>?_) (λk st2 e4 g₃ h₂ tk2 e x₃ R₃ X=>?_) λe4=>?_
 ·replace hp:bW m g (f (.ref st.H.length) {st' with lo:=st.lo}) ct Q E s:=hp
  rw[e4]at hp
  refine aC (akl sk _ _ m₁ (λx hx=>wA nd x ((aav.mp hx).elim afg afh)) ⟨oC,esC,epC,R₃.eI,hC2⟩ λh'' m'' hn'' hs''=>aK (aK ?_))
  rw[hs']
  exact hp g₃ h'' tk2 () (xg2.trans x₃) (R₃.lX λb o hb q=>(hs''.2 b hb).trans q).of0 trivial
 ·replace hp:bW m g (f (.ref st.H.length) {st' with lo:=st.lo}) ct Q E s:=hp
  rw[e4]at hp
  rw[hs']
  exact hp g₃ h₂ tk2 e (xg2.trans x₃) R₃.ia.of0 X.drop
 ·replace hp:bW m g (f (.ref st.H.length) {st' with lo:=st.lo}) ct Q E s:=hp
  rw[e4]at hp
  exact hp.elim
theorem wG(G:aB m P K mg mb){n:Nat}(ih:∀ m',aB m' P K mg mb->m'.d=m.d->bf m' (ev P C m'.lv n m'.sc)){elt t it:Expr}{ifs:List Expr}{scope:Scope}{pos:Pos}{io:List V×Option (Nat×List V)}{lo':Lo}(hv:m.A.handled=none)(hsc:g7 scope=true):
  ∀ os W cl C1 g₂ it' ra (s:aaC) (Q:Sh),n4 m g st t scope lo' io os W cl C1 g₂ it' ra s.heap->fg (m.comp g.m scope cl C1) g₂ (loop (bI io.2) (gm P (asg P m.lv (ev P C m.lv n scope) scope 3 t) (gK (ev P C m.lv n scope) n) ifs (ev P C m.lv n scope elt) (.ref st.H.length)) io.1 {lo:=lo',H:=st.H++[.list []]}) Q s->
   codeN (model m.c.prog m.c.w) m.A (.compLoop (.ListComp elt [⟨t,it,ifs,0⟩] scope pos) 0 (.ref it') (.ref ra) (agp scope cl C1 m.env)) (λr s'=>r=.ok .next∧Q s') s:=by
 intro os W cl C1 g₂ it' ra s Q B Pl
 have Gc:=aB.comp (m₀:=g.m) (cl:=cl) (C:=C1) G hsc
 have ihx:=λos=>ih _ (Gc.x (os:=os)) rfl
 exact ER (acc:=.ref st.H.length) (racc:=.ref ra) (λos=>Gc.x (os:=os)) hv (B.p4 Gc.O) B.p3 (λos g st x rx vx=>l0 Gc.x (ihx os) 3 t x rx g st vx) (λos e=>qM Gc.x (ihx os) n e) (λos=>(ihx os).snd elt) io.1 g₂ os _ s _ (.refl _) B.p1 B.p2 (Pl.imp λs' h=>⟨rfl,h⟩)
theorem wH{ev:Expr->M V}(H:bf m ev){it:Expr}{st st':St}{x:V}(e:ev it st=.ok x st'):(it.ctorIdx==7)=false:=by
 cases h:it.ctorIdx==7 with
 |false=>rfl
 |true=>exact kz ((H.kE it st h).symm.trans e)
theorem E0(G:aB m P K mg mb){n:Nat}(ih:∀ m',aB m' P K mg mb->m'.d=m.d->bf m' (ev P C m'.lv n m'.sc))(elt t it:Expr)(ifs:List Expr)(scope:Scope)(pos:Pos):
  Np m g st (eval (.ListComp elt [⟨t,it,ifs,0⟩] scope pos) m.env) ((ev P C m.lv n m.sc it>>=λx=>comp P m.lv (ev P C m.lv n) n m.sc elt t ifs scope x) st) m.VR:=by
 have H:=ih m G rfl
 show Np m g st (eval it m.env>>=λx=>afc (.ListComp elt [⟨t,it,ifs,0⟩] scope pos) scope m.env (firstIterPos [⟨t,it,ifs,0⟩] pos) (aih []) false (pure x)) _ _
 refine Np.bind (H.snd it g st) λx st₁ g₁ rx e1 x₁ vx=>wB (Pr:=λr=>Np m g₁ st₁ _ r m.VR) Np.no λio lo' hg e2 e3=>?_
 obtain⟨hlv,hsc⟩:=aab.mp hg
 obtain⟨s1,s2,s3,s4,s5⟩:=ma hsc
 exact EY G.O (G.O.df hlv) (wH H e1) s1 s4 vx e2 e3 (wG G ih (G.O.df hlv) hsc)
theorem E1(G:aB m P K mg mb){n:Nat}(ih:∀ m',aB m' P K mg mb->m'.d=m.d->bf m' (ev P C m'.lv n m'.sc))(elt t it:Expr)(ifs:List Expr)(scope:Scope)(pos:Pos)(nm:Str)(q:Pos):
  Np m g st (afX (.ListComp elt [⟨t,it,ifs,0⟩] scope pos) m.env (acL (.Name nm q) m.env)) ((ev P C m.lv n m.sc it>>=λx=>comp P m.lv (ev P C m.lv n) n m.sc elt t ifs scope x>>=λv=>store m.sc nm v) st) ct:=by
 have H:=ih m G rfl
 show Np m g st ((eval it m.env>>=λx=>afc (.ListComp elt [⟨t,it,ifs,0⟩] scope pos) scope m.env (firstIterPos [⟨t,it,ifs,0⟩] pos) (aih []) false (pure x) (some (acL (.Name nm q) m.env)))>>=λ_=>pure ()) _ _
 refine dA (Np.bind (H.snd it g st) λx st₁ g₁ rx e1 x₁ vx=>?_)
 show Np m g₁ st₁ _ (M.bind (λst=>comp P m.lv (ev P C m.lv n) n m.sc elt t ifs scope x st) (λv=>store m.sc nm v) st₁) _
 refine wB (st:=st₁) (Pr:=λr=>Np m g₁ st₁ _ (M.bind (λ_=>r) (λv=>store m.sc nm v) st₁) ct) Np.no λio lo' hg e2 e3=>?_
 obtain⟨hlv,hsc⟩:=aab.mp hg
 obtain⟨s1,s2,s3,s4,s5⟩:=ma hsc
 exact EZ G.O (G.O.df hlv) (wH H e1) s1 s4 (λos g st v r vv=>wq G.x.O vv) vx e2 e3 (wG G ih (G.O.df hlv) hsc)
end
end
section
open _root_.PySem.SeqAt
section
variable {P:a9} {K:Frag} {mg mb:Str->Option Value} {C:Ct} {lv:Bool} {n:Nat} {sc:Scope}
theorem cJ{p:Prop}(h:false=true):p:=aaa h
theorem E2{motive:Expr->Prop}(h1:∀ a b c,motive (.Set a b c))(e:Expr):(e.ctorIdx==7)=true->motive e:=
 aaO (motive_1:=λe=>(e.ctorIdx==7)=true->motive e) e (λx0 x1 x2=>cJ) (λx0 x1 x2=>cJ) (λx0 x1 x2 x3=>cJ) (λx0 x1 x2=>cJ) (λx0 x1 x2 x3=>cJ) (λx0 x1 x2 x3=>cJ) (λx0 x1 x2=>cJ) (λa b c=>λ_=>h1 a b c) (λx0 x1 x2 x3=>cJ) (λx0 x1 x2 x3=>cJ) (λx0 x1 x2 x3 x4=>cJ) (λx0 x1 x2 x3=>cJ) (λx0 x1=>cJ) (λx0 x1=>cJ) (λx0 x1=>cJ) (λx0 x1 x2 x3=>cJ) (λx0 x1 x2 x3=>cJ) (λx0 x1 x2 x3=>cJ) (λx0 x1=>cJ) (λx0 x1 x2=>cJ) (λx0 x1 x2=>cJ) (λx0 x1 x2=>cJ) (λx0 x1=>cJ) (λx0 x1=>cJ) (λx0 x1=>cJ) (λx0 x1 x2=>cJ) (λx0 x1 x2 x3=>cJ)
theorem isEmpty_nil{α:Type}{l:List α}(h:l.isEmpty=true):l=[]:=aiy.mp h
theorem isNone_none{α:Type}{o:Option α}(h:o.isNone=true):o=none:=acb.mp h
section
variable {m:Am} {g:Gs} {st:St} {ev:Expr->M V}
theorem E3(H:bf m ev)(op:UnaryOp)(x:Expr)(p:Pos):Np m g st (eval (.UnaryOp op x p) m.env) (pO ev op x st) m.VR:=
 UnaryOp.casesOn (motive:=λop=>Np m g st (eval (.UnaryOp op x p) m.env) (pO ev op x st) m.VR) op Np.no (B1 (congrFun (M.bind_assoc (ev x) truth _) st) (D7 H x p)) Np.no Np.no
theorem E4(G:aB m P K mg mb)(H:bf m ev)(o i:Expr)(p:Pos):Np m g st (eval (.Subscript o i p) m.env) (uo ev o i st) m.VR:=
 tI (motive:=λi w=>Np m g st (eval (.Subscript o i p) m.env) (um ev o i w st) m.VR) (λa b c sp=>Np.aL λh=>by rw[show c=none from isNone_none h];exact Eb G H o a b sp p) (λi _=>Ea G H o i p) i
theorem E5(G:aB m P K mg mb)(H:bf m ev)(Cv:ic m P C)(f:Expr)(args:List Expr)(kws:List afW)(p:Pos):Np m g st (eval (.Call f args kws p) m.env) (uk P C m.lv ev f args kws p st) m.VR:=
 Np.aL λh=>by
  rw[isEmpty_nil h]
  exact ly (motive:=λf w=>Np m g st (eval (.Call f args [] p) m.env) (uj P C m.lv ev args p w st) m.VR) (λx p'=>Eg H Cv x p' p args) (λo nm apos=>Eh G H Cv o nm apos p args) (λ_ _ _=>Np.no) (λ_ _ _=>Np.no) (λ_=>Np.no) f
theorem E6(ks:List (Option Expr))(vs:List Expr)(p:Pos):Np m g st (eval (.Dict ks vs p) m.env) (uq ks vs st) m.VR:=
 Np.aL λh=>by
  obtain⟨h1,h2⟩:=aab.mp h
  rw[isEmpty_nil h1,isEmpty_nil h2]
  exact Ei p
theorem E7(G:aB m P K mg mb){n:Nat}(ih:∀ m',aB m' P K mg mb->m'.d=m.d->bf m' (Lite.ev P C m'.lv n m'.sc))(elt:Expr)(gens:List ahZ)(scope:Scope)(p:Pos):
  Np m g st (eval (.ListComp elt gens scope p) m.env) (nv P m.lv (Lite.ev P C m.lv n) n m.sc elt gens scope st) m.VR:=by
 cases gens with
 |nil=>exact Np.no
 |cons c r=>
  refine Np.aL λh=>?_
  obtain⟨h1,h2⟩:=aab.mp h
  obtain⟨t,it,ifs,a⟩:=c
  rw[isEmpty_nil h1,show a=0 from of_decide_eq_true h2]
  exact E0 G ih elt t it ifs scope p
theorem E8(G:aB m P K mg mb){n:Nat}(ih:∀ m',aB m' P K mg mb->m'.d=m.d->bf m' (Lite.ev P C m'.lv n m'.sc))(elt:Expr)(gens:List ahZ)(scope:Scope)(p:Pos)(nm:Str)(q:Pos):
  Np m g st (afX (.ListComp elt gens scope p) m.env (acL (.Name nm q) m.env)) ((nv P m.lv (Lite.ev P C m.lv n) n m.sc elt gens scope>>=λv=>store m.sc nm v) st) ct:=by
 cases gens with
 |nil=>exact Np.no
 |cons c r=>
  unfold nv
  rw[M.bind_assoc]
  refine Np.aL λh=>?_
  obtain⟨h1,h2⟩:=aab.mp h
  obtain⟨t,it,ifs,a⟩:=c
  rw[isEmpty_nil h1,show a=0 from of_decide_eq_true h2,M.bind_assoc]
  exact E1 G ih elt t it ifs scope p nm q
end
theorem E9{d:Nat}(HC:∀ m',aB m' P K mg mb->m'.d=d->ic m' P C)(n:Nat):∀ (m:Am),aB m P K mg mb->m.d=d->bf m (ev P C m.lv n m.sc):=by
 induction n with
 |zero=>exactλm G hd=>⟨λe g st=>Np.no,λe st h=>rfl,λ_ _ _ _ _ _ _ _ _=>Np.no⟩
 |succ n ev_ih=>
  intro m G hd
  have ih:∀ m',aB m' P K mg mb->m'.d=m.d->bf m' (ev P C m'.lv n m'.sc):=λm' G' hd'=>ev_ih m' G' (hd'.trans hd)
  have H:=ih m G rfl
  refine⟨λe g st=>?_,λe st h=>E2 (motive:=λe=>ev P C m.lv (n+1) m.sc e st=.no) (λ_ _ _=>rfl) e h,λelt gens scope p nm q _ g st=>E8 G ih elt gens scope p nm q⟩
  exact aaO (motive_1:=λe=>Np m g st (eval e m.env) (ev P C m.lv (n+1) m.sc e st) m.VR) e (λop vs p=>D8 H op vs p) (λx0 x1 x2=>Np.no) (λl op r p=>D6 H l op r p) (λop x p=>E3 H op x p) (λx0 x1 x2 x3=>Np.no) (λt b o p=>Ee G H n t b o p) (λks vs p=>E6 ks vs p) (λx0 x1 x2=>Np.no) (λelt gens scope p=>E7 G ih elt gens scope p) (λx0 x1 x2 x3=>Np.no) (λx0 x1 x2 x3 x4=>Np.no) (λx0 x1 x2 x3=>Np.no) (λx0 x1=>Np.no) (λx0 x1=>Np.no) (λx0 x1=>Np.no) (λl ops rs p=>D9 G H l ops rs p) (λf args kws p=>E5 G H (HC m G hd) f args kws p) (λx0 x1 x2 x3=>Np.no) (λx0 x1=>Np.no) (λc x1 x2=>Dz G.PK c) (λo a p=>D' G H o a p) (λo i p=>E4 G H o i p) (λx0 x1=>Np.no) (λx p=>(uV G.PK.glob G.O x p g st).np) (λes p=>Np.aL λh=>Ec H es p h) (λes k p=>Np.aL λh=>Ed H es k p h) (λx0 x1 x2 x3=>Np.no)
end
end
section
open _root_.PySem.SeqAt
def DfltIs(h:Heap)(dv:Value):Prop:=dv=.none∨d9 λT o xs n=>aO (dv=.ref T) (h.get? T=some o) (o.data=.seq xs n)
theorem DfltIs.items{M:Model}{A:aaY}{E:Value->Sh}{s:aaC}{dv:Value}(h:DfltIs s.heap dv){Q:Option (Array Value)->Sh}(hq:∀ o,Q o s):wpAny M A (ahd dv) Q E s:=by
 rcases h with rfl | ⟨T,o,xs,n,rfl,ho,hd⟩
 ·exact wpAny_bind (aai (aai (hq none)))
 ·exact afL ho hd (hq _)
theorem q8{x:Str}{names:List Str}{vals:Vs}(hl:vals.length=names.length)(hx:x∈names):((names.zip vals).lookup x).isNone=false:=by
 induction names generalizing vals with
 |nil=>exact nomatch hx
 |cons y r ih=>
  cases vals with
  |nil=>exact acP hl
  |cons v vs=>
   rw[afy,aay]
   cases q:x==y with
   |true=>rfl
   |false=>exact ih (acu.inj hl) ((acB.mp hx).resolve_left λe=>by rw[e,beq_self_eq_true]at q;exact aaa q)
theorem Fb{α β:Type}{f g:α->Option β}{l:List α}(h:∀ x∈l,f x=g x):l.filterMap f=l.filterMap g:=by
 induction l with
 |nil=>rfl
 |cons x r ih=>rw[afn,afn,h x (.head _),ih λy hy=>h y (.tail _ hy)]
theorem wI{names:List Str}{vals:Vs}(nd:names.Nodup)(hl:vals.length=names.length):(names.filterMap λn=>((names.zip vals).lookup n).map (n,·))=names.zip vals:=by
 induction names generalizing vals with
 |nil=>rfl
 |cons y r ih=>
  cases vals with
  |nil=>exact acP hl
  |cons v vs=>
   obtain⟨n1,n2⟩:=aaI.mp nd
   rw[afy,afn,aay,beq_self_eq_true]
   refine congrArg ((y,v)::·) ((Fb λx hx=>?_).trans (ih n2 (acu.inj hl)))
   rw[aay,show(x==y)=false from beq_eq_false_iff_ne.mpr λe=>n1 (e▸hx)]
theorem Fc{acc:List (Str×Value)}(l:List (Str×Value))(h:∀ x∈l,(acc.lookup x.1).isNone=false):(forIn l acc (λx r=>if (List.lookup x.1 r).isNone=true then pure (abQ (r++[(x.1,x.2)]))else pure (abQ r)):Sem (List (Str×Value)))=pure acc:=by
 induction l with
 |nil=>exact aeo
 |cons p r ih=>
  rw[adw,h p (.head _)]
  exact ih λx hx=>h x (.tail _ hx)
theorem Fe{S B:Type}{M:Model}{A:aaY}{Q:B->Sh}{E:Value->Sh}{s:aaC}{dv:Value}{c1 c2:Option (Array Value)->Bool}{e1 e2:Option (Array Value)->Sem B}{fill:Option (Array Value)->Sem S}{fin:S->Sem B}{acc:S}{b:B}(hd:DfltIs s.heap dv)
  (h1:∀ o,c1 o=false) (h2:∀ o,c2 o=false) (h3:∀ o,fill o=pure acc) (h4:fin acc=pure b) (hq:Q b s):wpAny M A (ahd dv>>=λo=>if c1 o=true then e1 o else if c2 o=true then e2 o else fill o>>=fin) Q E s:=
 wpAny_bind (hd.items λo=>by
  dsimp only[cq,bZ]
  rw[h1,h2,h3]
  exact wpAny_bind (aai (aaB h4 hq)))
theorem Ff{s:aaC}{fd:aeB}{ps:List Arg}{kd:List (Option Expr)}{ds:List Expr}{vals:Vs}(hp:fd.params=⟨[],ps,none,[],kd,none,ds⟩)(nd:(ps.map (·.arg)).Nodup)(hD:DfltIs s.heap fd.defaults)
  (h1:vals.length=(ps.map (·.arg)).length):BindsTo s fd ⟨vals,[]⟩ ((ps.map (·.arg)).zip vals):=by
 intro M A E Q hq
 obtain⟨f1,f2,params,f4,f5,f6,f7,f8,f9,f10,f11,f12,f13,f14,f15⟩:=fd
 subst hp
 refine Fe (s:=s) hD (λo=>?_) (λo=>?_) (λo=>Fc _ λx hx=>?_) rfl ?_
 ·show(decide (vals.length>(ps.map (·.arg)).length)&&_)=false
  rw[decide_eq_false (by rw[h1];exact aeC _)];rfl
 ·show(!(ahB (λn=>(((ps.map (·.arg)).zip vals).lookup n).isNone) (aiL _ (ps.map (·.arg)))).isEmpty)=false
  rw[acW.mpr λx hx h=>aaa ((q8 h1 (afh hx)).symm.trans h)];rfl
 ·exact q8 h1 (afg (aeS hx).1)
 ·show Q (aiX _ (ps.map (·.arg)++[])) s
  rw[aar]
  exact(wI nd h1).symm▸hq
def q9(h:Heap)(dv:Value):Prop:=cW λT o n=>aO (dv=.ref T) (h.get? T=some o) (o.data=.seq #[.none] n)
theorem Fg{S B:Type}{M:Model}{A:aaY}{Q:B->Sh}{E:Value->Sh}{s:aaC}{dv:Value}{o:Option (Array Value)}{c1 c2:Option (Array Value)->Bool}{e1 e2:Option (Array Value)->Sem B}{fill:Option (Array Value)->Sem S}{fin:S->Sem B}{acc:S}{b:B}(hd:∀ Q':Option (Array Value)->Sh,Q' o s->wpAny M A (ahd dv) Q' E s)
  (h1:c1 o=false) (h2:c2 o=false) (h3:fill o=pure acc) (h4:fin acc=pure b) (hq:Q b s):wpAny M A (ahd dv>>=λo=>if c1 o=true then e1 o else if c2 o=true then e2 o else fill o>>=fin) Q E s:=
 wpAny_bind (hd _ (by
  dsimp only[cq,bZ]
  rw[h1,h2,h3]
  exact wpAny_bind (aai (aaB h4 hq))))
theorem Fh{α:Type}{l:List α}{n:Nat}(h:n+1=l.length):∃ r x,l=r++[x]∧r.length=n:=by
 rcases List.eq_nil_or_concat l with rfl | ⟨r,x,rfl⟩
 ·exact acP h
 ·rw[List.concat_eq_append]at h ⊢
  exact⟨r,x,rfl,by rw[aag]at h;exact(acu.inj h).symm⟩
theorem rg{x:Str}{ns:List Str}:∀ {vals:Vs},vals.length=ns.length->(ns++[x]).zip vals=ns.zip vals:=by
 induction ns with
 |nil=>intro vals h;rw[List.eq_nil_of_length_eq_zero h];rfl
 |cons y r ih=>
  intro vals h
  cases vals with
  |nil=>exact acP h
  |cons v vs=>exact congrArg (_::·) (ih (acu.inj h))
theorem Fi{x:Str}{ns:List Str}{vals:Vs}(h:x ∉ ns):(ns.zip vals).lookup x=none:=by
 rw[agN]
 intro p hp
 exact bne_iff_ne.mpr λe=>h (e▸(aeS hp).1)
theorem Fj{s:aaC}{fd:aeB}{ps:List Arg}{kd:List (Option Expr)}{ds:List Expr}{vals:Vs}(hp:fd.params=⟨[],ps,none,[],kd,none,ds⟩)(nd:(ps.map (·.arg)).Nodup)(hD:q9 s.heap fd.defaults)
  (h1:vals.length+1=(ps.map (·.arg)).length):BindsTo s fd ⟨vals,[]⟩ ((ps.map (·.arg)).zip (vals++[.none])):=by
 intro M A E Q hq
 obtain⟨f1,f2,params,f4,f5,f6,f7,f8,f9,f10,f11,f12,f13,f14,f15⟩:=fd
 subst hp
 obtain⟨T,o,n,e,ho,hd⟩:=hD
 have hs:∀ Q':Option (Array Value)->Sh,Q' (some #[.none]) s->wpAny M A (ahd f8) Q' E s:=λQ' hq=>(show f8=.ref T from e)▸afL ho hd hq
 obtain⟨ns,x,en,hl⟩:=Fh h1
 have el:(ps.map (·.arg)).length=ns.length+1:=by rw[en,aag];rfl
 have e0:1-(ps.map (·.arg)).length=0:=by rw[el];exact Nat.sub_eq_zero_of_le (abE (abh _))
 have e2:(ps.map (·.arg)).length-1=ns.length:=by rw[el];rfl
 have ez:(ps.map (·.arg)).zip (vals++[abo])=(ps.map (·.arg)).zip vals++[(x,.none)]:=by
  rw[en,rg hl.symm,List.zip_append hl];rfl
 have nx:x ∉ ns:=by
  have:=en▸nd
  exactλh=>(aaW.mp this).2.2 x h x (.head _) rfl
 refine Fg (s:=s) (acc:=(ps.map (·.arg)).zip vals++[(x,.none)]) hs ?_ ?_ ?_ rfl ?_
 ·show(decide (vals.length>(ps.map (·.arg)).length)&&_)=false
  rw[decide_eq_false (aiz.mpr (h1▸adE _))];rfl
 ·show(!(ahB (λn=>(((ps.map (·.arg)).zip vals).lookup n).isNone) (aiL ((ps.map (·.arg)).length-(afz (1-(ps.map (·.arg)).length) [abo]).length) (ps.map (·.arg)))).isEmpty)=false
  rw[e0]
  show(!(ahB (λn=>(((ps.map (·.arg)).zip vals).lookup n).isNone) (aiL ((ps.map (·.arg)).length-1) (ps.map (·.arg)))).isEmpty)=false
  rw[e2,en,rg hl.symm,List.take_left' rfl,acW.mpr λy hy h=>aaa ((q8 hl.symm hy).symm.trans h)]
  rfl
 ·show(forIn ((afz ((ps.map (·.arg)).length-(afz (1-(ps.map (·.arg)).length) [abo]).length) (ps.map (·.arg))).zip (afz (1-(ps.map (·.arg)).length) [abo])) _ _:Sem (List (Str×Value)))=_
  rw[e0]
  show(forIn ((afz ((ps.map (·.arg)).length-1) (ps.map (·.arg))).zip [abo]) _ _:Sem (List (Str×Value)))=_
  rw[e2]
  have ed:afz ns.length (ps.map (·.arg))=[x]:=by rw[en,List.drop_left' rfl]
  rw[ed,afy,List.zip_nil_left,adw]
  have hm:(((ps.map (·.arg)).zip vals).lookup x).isNone=true:=by rw[en,rg hl.symm,Fi nx];rfl
  show((if (((ps.map (·.arg)).zip vals).lookup x).isNone=true then pure (abQ ((ps.map (·.arg)).zip vals++[(x,abo)]))else pure (abQ ((ps.map (·.arg)).zip vals)):Sem (ForInStep (List (Str×Value))))>>=_)=_
  rw[if_pos hm]
  rfl
 ·show Q (aiX (λn=>(((ps.map (·.arg)).zip vals++[(x,abo)]).lookup n).map (n,·)) (ps.map (·.arg)++[])) s
  rw[aar,<-ez,wI nd (by rw[aag];exact h1)]
  exact hq
end
section
open _root_.PySem.SeqAt
theorem wJ{α:Type}{x y:α}{l:List α}(h:¬ x∈y::l):x≠y∧¬ x∈l:=⟨λe=>h (e▸.head _),λq=>h (.tail _ q)⟩
theorem rh{x y:Str}(h:x≠y):(x==y)=false:=beq_eq_false_iff_ne.mpr h
theorem lookup_miss{α:Type}{x:Str}{l:List (Str×α)}(h:x ∉ l.map (·.1)):l.lookup x=none:=by
 induction l with
 |nil=>rfl
 |cons p r ih=>
  obtain⟨h1,h2⟩:=wJ h
  rw[aay,rh h1]
  exact ih h2
theorem wK{F:List (Str×Value)->(Str->Option Value)->Str->Option Value}{x:Str}(h0:∀ m,F [] m x=m x)(h1:∀ n v r m,∃ m',F ((n,v)::r) m x=F r m' x∧m' x=if x=n then some v else m x){l:List (Str×Value)}(nd:(l.map (·.1)).Nodup):∀ {m:Str->Option Value},F l m x=(l.lookup x).or (m x):=by
 induction l with
 |nil=>exact h0 _
 |cons p r ih=>
  intro m
  obtain⟨n1,n2⟩:=aaI.mp nd
  obtain⟨m',e1,e2⟩:=h1 p.1 p.2 r m
  rw[e1,ih n2,e2,aay]
  by_cases e:x=p.1
  ·subst e
   rw[if_pos rfl,beq_self_eq_true,lookup_miss n1];rfl
  ·rw[if_neg e,rh e]
theorem Fo{x n:Str}{v:Value}{m:Str->Option Value}{c:Prop}[Decidable c](h:x=n->c):(if c then λy=>if y=n then some v else m y else m) x=if x=n then some v else m x:=by
 by_cases hc:c
 ·rw[if_pos hc]
 ·rw[if_neg hc,if_neg λe=>hc (h e)]
theorem Fp{x n:Str}{v:Value}{m:Str->Option Value}{c:Prop}[Decidable c](h:x=n->¬ c):(if c then m else λy=>if y=n then some v else m y) x=if x=n then some v else m x:=by
 by_cases hc:c
 ·rw[if_pos hc,if_neg λe=>h e hc]
 ·rw[if_neg hc]
theorem Fq{k:Str->Option aax}{l:List (Str×Value)}{x:Str}(nd:(l.map (·.1)).Nodup)(hk:k x=some .local):bindL k l (λ_=>none) x=l.lookup x:=
 (wK (F:=bindL k) (λ_=>rfl) (λn v r m=>⟨_,rfl,Fo λe=>e▸hk⟩) nd).trans (aiA ..)
theorem Fs{k:Str->Option aax}{l:List (Str×Value)}{x:Str}(nd:(l.map (·.1)).Nodup)(hk:k x≠some .local):bindC k l (λ_=>none) x=l.lookup x:=
 (wK (F:=bindC k) (λ_=>rfl) (λn v r m=>⟨_,rfl,Fp λe=>e▸hk⟩) nd).trans (aiA ..)
theorem rj{x:Str}{r:List (Str×aax)}{n:Nat}{acc:List (Str×Addr)}:aeO n ((x,aen)::r) acc=aeO (n+1) r ((x,n)::acc):=rfl
theorem rm{x:Str}{k:aax}{r:List (Str×aax)}{n:Nat}{acc:List (Str×Addr)}(hk:k≠.cell):aeO n ((x,k)::r) acc=aeO n r acc:=if_neg λe=>hk (beq_iff_eq.mp e)
theorem wL{x:Str}{names:List (Str×aax)}(h:x ∉ names.map (·.1)):∀ {n:Nat} {acc:List (Str×Addr)},(aeO n names acc).lookup x=acc.lookup x:=by
 induction names with
 |nil=>exact rfl
 |cons p r ih=>
  intro n acc
  obtain⟨y,k⟩:=p
  obtain⟨h1,h2⟩:=wJ h
  by_cases hk:k=.cell
  ·rw[hk,rj,ih h2,aay,rh h1]
  ·rw[rm hk,ih h2]
abbrev kJ(c:Cx)(g:Gs):List (Str×V)->List (Str×Value)->Prop:=aQ λp q=>p.1=q.1∧VR c g p.2 q.2
theorem kJ.lookup{c:Cx}{g:Gs}{b:List (Str×V)}{l:List (Str×Value)}(q:kJ c g b l)(x:Str):cN c g (b.lookup x) (l.lookup x):=
 aQ.fold q cN.none λp p' as bs a _ ih=>by
  rw[aay,aay,<-a.1]
  cases x==p.1 with
  |true=>exact .some a.2
  |false=>exact ih
theorem kJ.zip{c:Cx}{g:Gs}{vs:List V}{rs:Vs}(q:aA c g vs rs):∀ names:List Str,kJ c g (names.zip vs) (names.zip rs):=
 aQ.fold q (λnames=>by rw[ahT,ahT];exact .nil) λv w as bs a _ ih names=>by
  cases names with
  |nil=>exact .nil
  |cons n r=>exact .cons ⟨rfl,a⟩ (ih r)
theorem Inv.Ft{c:Cx}{g:Gs}{H:Hp}{h:Heap}{a n:Addr}{o:O}(I:Inv c g H h)(F:bc c g H a)(ne:n≠a)(p:o.dX=false):bc c (g.lay (n,n)) (H++[o]) a:=by
 refine⟨λz hz=>?_,F.2⟩
 rw[uI I,nz (n,n) p]at hz
 rcases aav.mp hz with hz |hz
 ·exact uJ.all (Q:=(·≠a)) F.1 z hz
 ·rw[aaP.mp hz];exact ne
theorem Fu{x:Str}{r:List (Str×aax)}{b:List (Str×V)}:eE ((x,.cell)::r) b=[O.cell (b.lookup x)]++eE r b:=rfl
theorem Fv{x:Str}{k:aax}{r:List (Str×aax)}{b:List (Str×V)}(hk:k≠.cell):eE ((x,k)::r) b=eE r b:=
 congrArg (List.map _) (List.filter_cons_of_neg λe=>hk (beq_iff_eq.mp e))
theorem rn{x:Str}{k:aax}{r:List (Str×aax)}{b:List (Str×V)}{base:Nat}(hk:k≠.cell):∃ e,dG ((x,k)::r) b base=e::dG r b base∧(k=.local->e=b.lookup x):=by
 cases k with
 |cell=>exact absurd rfl hk
 | «local»=>exact⟨_,rfl,λ_=>rfl⟩
 |_=>exact⟨_,rfl,λe=>abc e⟩
theorem Fw{c:Cx}{h:Heap}{b:List (Str×V)}{cm:Str->Option Value}{cs:List (Str×Addr)}(hcell:∀ x a,cs.lookup x=some a->h.IsCell a (cm x))(r:List (Str×aax)):
  ∀ (n:Nat) (acc:List (Str×Addr)) (g:Gs) (H:Hp),Inv c g H h->(r.map (·.1)).Nodup->(∀ x,(x,aen)∈r->cN c g (b.lookup x) (cm x))->(∀ x∈r.map (·.1),(aeO n r acc).lookup x=cs.lookup x)->(∀ a,n<=a->bc c g H a)->
   ∃ g',cB (Ext g g') (g'.m=g.m) (Inv c g' (H++eE r b) h) (∀ (i:Nat) (x:Str),r[i]? =some (x,aen)->cW λa y z=>aO ((dG r b H.length)[i]? =some (some (V.ref a))) (g'.ρ[a]? =some (y,z)) (cs.lookup x=some y)):=by
 induction r with
 |nil=>exactλn acc g H I _ _ _ _=>⟨g,.refl g,rfl,(aar H).symm▸I,λi x e=>ai e⟩
 |cons p r ih=>
  intro n acc g H I nd hb hcs hf
  obtain⟨x,k⟩:=p
  obtain⟨n1,n2⟩:=aaI.mp nd
  by_cases hk:k=.cell
  ·subst hk
   have hx:cs.lookup x=some n:=by
    rw[<-hcs x (.head _),rj,wL n1,aay,beq_self_eq_true]
   obtain⟨ob,ho,hd⟩:=hcell x n hx
   have I1:=I.jx (a:=n) (o:=.cell (b.lookup x)) (ob:=ob) (hf n (aaZ _)) rfl ho ⟨cm x,hd,(hb x (.head _)).mono (fc g _)⟩
   obtain⟨g',x1,x2,I2,x3⟩:=ih (n+1) ((x,n)::acc) (g.lay (n,n)) (H++[.cell (b.lookup x)]) I1 n2 (λy hy=>(hb y (.tail _ hy)).mono (fc g _)) (λy hy=>hcs y (.tail _ hy))
    λa ha=>I.Ft (hf a (aev ha)) (abY ha) rfl
   refine⟨g',(fc g _).trans x1,x2,by rw[Fu,<-aaf];exact I2,λi y e=>?_⟩
   cases i with
   |zero=>
    have hl:(g.lay (n,n)).ρ[H.length]? =some (n,n):=I.len▸List.getElem?_concat_length
    exact⟨H.length,n,n,rfl,x1.at hl,(congrArg (λp=>cs.lookup p.1) (aae.inj e)).symm.trans hx⟩
   |succ i=>
    obtain⟨a,u,z,w1,w2,w3⟩:=x3 i y e
    rw[aag]at w1
    exact⟨a,u,z,w1,w2,w3⟩
  ·rw[rm hk]at hcs
   obtain⟨g',x1,x2,I2,x3⟩:=ih n acc g H I n2 (λy hy=>hb y (.tail _ hy)) (λy hy=>hcs y (.tail _ hy)) hf
   refine⟨g',x1,x2,by rw[Fv hk];exact I2,λi y e=>?_⟩
   cases i with
   |zero=>exact absurd (congrArg ahS (aae.inj e)) hk
   |succ i=>
    obtain⟨e',h1,_⟩:=rn (b:=b) (x:=x) (r:=r) (base:=H.length) hk
    rw[h1]
    exact x3 i y e
theorem Fx{b:List (Str×V)}(names:List (Str×aax)):∀ {base:Nat},(dG names b base).length=names.length:=by
 induction names with
 |nil=>exact rfl
 |cons p r ih=>
  intro base
  obtain⟨x,k⟩:=p
  by_cases hk:k=.cell
  ·rw[hk];exact congrArg (·+1) ih
  ·obtain⟨e',h1,_⟩:=rn (b:=b) (x:=x) (r:=r) (base:=base) hk
   rw[h1];exact congrArg (·+1) ih
theorem Fy{b:List (Str×V)}{x:Str}(names:List (Str×aax)):∀ {base i:Nat},names[i]? =some (x,aax.local)->(dG names b base)[i]? =some (b.lookup x):=by
 induction names with
 |nil=>exactλe=>ai e
 |cons p r ih=>
  intro base i e
  obtain⟨y,k⟩:=p
  by_cases hk:k=.cell
  ·subst hk
   cases i with
   |zero=>exact abc (congrArg ahS (aae.inj e))
   |succ i=>exact ih e
  ·obtain⟨e',h1,h2⟩:=rn (b:=b) (x:=y) (r:=r) (base:=base) hk
   rw[h1]
   cases i with
   |zero=>have z:=aae.inj e;exact congrArg some ((h2 (congrArg ahS z)).trans (congrArg (λp=>b.lookup p.1) z))
   |succ i=>exact ih e
end
section
open _root_.PySem.SeqAt
def jE(c:Cx)(a:Addr)(f:Fn):Prop:=
 gf λo fd ps kd ds=>j8 (c.b₀.get? a=some o) (o.data=.func fd) (fd.scope.names=f.scope.names) (g7 fd.scope=true) (∀ q∈f.scope.names,q.2≠.free) (fd.closure=[]) (fd.globals=acQ) (j8 (fd.builtins=afC) (c.b₀.CodeRec fd.code fd.qualname) (fd.body=.stmts f.body) (fd.params=⟨[],ps,none,[],kd,none,ds⟩) (ps.map (·.arg)=f.params) (f.params.Nodup) (DfltIs c.b₀ fd.defaults∧(f.lz=true->q9 c.b₀ fd.defaults))
  (∀ x∈f.params,f.scope.names.lookup x=some .local∨f.scope.names.lookup x=some .cell))
noncomputable abbrev Am.of (c:Cx) (X:List (Addr×Obj)) (fs:List (Addr×(Str->Option Value))) (fr:List Env) (A:aaY) (sc:Scope) (env:Env) (L:Addr) (d:Nat):Am:=
 {c:=c.at X fs L,sc:=sc,env:=env,A:=A,L:=L,cZ:=env,outer:=fr,lv:=true,d:=d}
noncomputable abbrev Am.fn (m:Am) (m₀:Str->Option Value) (A:aaY) (sc:Scope) (env:Env) (L:Addr) (d:Nat):Am:=
 {c:=m.c.at m.c.X ((m.c.N,m₀)::m.c.fs) L,sc:=sc,env:=env,A:=A,L:=L,cZ:=env,outer:=m.cZ::m.outer,lv:=true,d:=d}
structure gO(m:Am)(A:aaY):Prop where
 frames:A.frames=some (m.cZ::m.outer)
 df:A.handled=none
 fR:A.guards=some []
 dep:A.depth<=m.A.depth+2
 hV:A.units<=m.A.units+12
noncomputable def n5:Flow->Value
 | .ret v=>v
 |_=>.none
section
variable {m:Am} {g:Gs} {st:St} {P:a9} {K:Frag} {mg mb:Str->Option Value}
theorem Fz{names:List (Str×aax)}{x:Str}:∀ {n:Nat} {acc:List (Str×Addr)},(names.map (·.1)).Nodup->names.lookup x=some .cell->((aeO n names acc).lookup x).isSome=true:=by
 induction names with
 |nil=>exactλ_ e=>ai e
 |cons p r ih=>
  intro n acc nd e
  obtain⟨y,k⟩:=p
  obtain⟨n1,n2⟩:=aaI.mp nd
  rw[aay]at e
  cases q:x==y with
  |true=>
   rw[q]at e
   rw[show k=.cell from aae.inj e,rj,wL (by rw[beq_iff_eq.mp q];exact n1),aay,q]
   rfl
  |false=>
   rw[q]at e
   by_cases hk:k=.cell
   ·rw[hk];exact ih n2 e
   ·rw[rm hk];exact ih n2 e
noncomputable def bodyOf (b:agq) (env:Env):Code:=match b with
 | .stmts b=>.func b env
 | .expr e=>.expr e env
theorem FA(b:agq)(env:Env):(bodyOf b env).quiet=true:=by cases b<;>rfl
noncomputable def wM (c:Value) (q0:Str) (jp:Str->Sem aer):Sem aer:=match c with
 | .none=>pure q0>>=jp
 |c=>field c 1>>=λv=>match v with
  | .str q _=>pure q>>=jp
  |_=>pure q0>>=jp
noncomputable def FC (g c:Bool) (x y z w:Sem aer):Sem aer:=match g,c with
 |false,false=>x
 |true,false=>y
 |false,true=>z
 |true,true=>w
theorem FD(a:Addr)(fd:aeB)(args:Args):∃ X Y Z:Env->Sem aer,callFunction a fd args=wM fd.code fd.qualname λq=>bindArgs fd args>>=λbs=>aht fd.scope fd.globals fd.closure bs (q++".<locals>.") (some a) fd.code none fd.builtins>>=λenv=>enterFrame>>=λ_=>FC fd.scope.isGenerator fd.scope.isCoroutine (again (bodyOf fd.body env)) (X env) (Y env) (Z env):=
 ⟨_,_,_,rfl⟩
theorem FE{M:Model}{A:aaY}{s:aaC}{c:Value}{q0:Str}{jp:Str->Sem aer}{Q:aer->Sh}{E:Value->Sh}(hcd:s.heap.CodeRec c q0)(h:ao M A (jp q0) Q E s):ao M A (wM c q0 jp) Q E s:=by
 obtain⟨cc,o',vsc,tq,rfl,hoc,hdc,hq⟩:=hcd
 exact az (bt (acz hoc hdc hq (az (aK h))))
theorem FF{M:Model}{A:aaY}{s:aaC}{a:Addr}{o:Obj}{fd:aeB}{args:Args}{Q:aer->Sh}{E:Value->Sh}(h1:s.heap.get? a=some o)(h2:o.data=.func fd)(h:ao M A (callFunction a fd args) Q E s):ao M A (aje (.ref a) args) Q E s:=by
 obtain⟨oc,od,data,sl⟩:=o
 have h2:data=.func fd:=h2
 subst h2
 show ao M A (load a>>=_) _ _ s
 exact aC (aeq h1 h)
theorem FG{prog:acI}{w:World}{A:aaY}{a:Addr}{o:Obj}{fd:aeB}{rs:Vs}{bs:List (Str×Value)}{Rr:aez->Sh}{s:aaC}(h1:s.heap.get? a=some o)(h2:o.data=.func fd)(s2:fd.scope.isGenerator=false)(s3:fd.scope.isCoroutine=false)
  (hcd:s.heap.CodeRec fd.code fd.qualname) (B:BindsTo s fd ⟨rs,[]⟩ bs) (hdep:A.depth<adq)
  (h:wpAny (model prog w) A.in1 (aht fd.scope fd.globals fd.closure bs (fd.qualname++".<locals>.") (some a) fd.code none fd.builtins) (λenv s'=>s'.heap.NoLimit∧codeN (model prog w) A (bodyOf fd.body env) Rr s') (λe s'=>Rr (.error e) s') s):
  codeN (model prog w) A (.call (.ref a) ⟨rs,[]⟩) Rr s:=by
 refine fy (FF (A:=A.in1) h1 h2 ?_) rfl
 obtain⟨X,Y,Z,e⟩:=FD a fd ⟨rs,[]⟩
 rw[e,s2,s3]
 exact FE hcd (aC (B _ _ _ _ (aC (agB h (λenv s' z=>aC (wpAny_enterFrame z.1 hdep (aK ⟨FA fd.body env,z.2⟩))) λ_ _ z=>z))))
theorem FH{c:Cx}{X:List (Addr×Obj)}{fs:List (Addr×(Str->Option Value))}{fr:List Env}{A:aaY}{sc fsc:Scope}{cl:List (Str×Addr)}{qual:Str}{self:Option Addr}{code:Value}{L:Addr}{d:Nat}{env:Env}(he:env=newEnv fsc L acQ cl qual self code none afC)
  (e:fsc.names=sc.names) (hs:g7 fsc=true) (hfr:A.frames=some fr) (hhd:A.handled=none) (hgr:A.guards=some []) (hdp:A.depth+1+4*(d+1)<adq) (hun:A.units+3+24*(d+1)<cLine)
  (hfk:∀ e∈fr,e.scope.kind=.function∧∃ a,e.frame=some a∧a∈fs.map (·.1)):bE (Am.of c X fs fr (A.deeper env) sc env L d):=by
 subst he
 obtain⟨s1,s2,s3,s4,s5⟩:=ma hs
 have eK:∀ {y:Str} {k:aax},sc.names.lookup y=some k->fsc.names.lookup y=some k:=λh=>(congrArg _ e).trans h
 refine⟨⟨s1,λy h=>eK h,λy h=>h.imp eK eK,λy h=>eK h,rfl,rfl,rfl,e▸s4,e▸s5⟩,?_,rfl,rfl,λe he'=>?_,hdp,hun,λ_=>hhd,hgr⟩
 ·show A.frames.map _=_;rw[hfr];rfl
 ·rcases acB.mp he' with rfl |he'
  ·exact⟨s1,L,rfl,.head _⟩
  ·obtain⟨q1,a',q2,q3⟩:=hfk e he'
   exact⟨q1,a',q2,.tail _ q3⟩
theorem FI{xs:List Str}:∀ {ys:Vs},xs.Nodup->((xs.zip ys).map (·.1)).Nodup:=by
 induction xs with
 |nil=>exactλ_=>abC
 |cons x xs ih=>
  intro ys nd
  obtain⟨n1,n2⟩:=aaI.mp nd
  cases ys with
  |nil=>exact abC
  |cons y ys=>
   refine aaI.mpr ⟨λhm=>?_,ih n2⟩
   obtain⟨z,hz,e⟩:=aau.mp hm
   exact n1 ((show z.1=x from e)▸(aeS hz).1)
theorem FJ{f:Fn}{args:List V}{b:List (Str×V)}(h:binds f args=some b):(args.length=f.params.length∧b=f.params.zip args)∨aO (args.length+1=f.params.length) (f.lz=true) (b=f.params.zip (args++[.none])):=by
 unfold binds at h
 by_cases e:args.length=f.params.length
 ·rw[if_pos e]at h;exact .inl ⟨e,(aae.inj h).symm⟩
 ·rw[if_neg e]at h
  by_cases e:args.length+1=f.params.length∧f.lz=true
  ·rw[if_pos e]at h;exact .inr ⟨e.1,e.2,(aae.inj h).symm⟩
  ·rw[if_neg e]at h;exact ai h
theorem FK{c:Cx}{X:List (Addr×Obj)}{fs:List (Addr×(Str->Option Value))}{fr:List Env}{H:Hp}{f:Fn}{d:Nat}{A:aaY}{L:Addr}{h₁:Heap}{b:List (Str×V)}{bs:List (Str×Value)}{env:Env}{fsc:Scope}(h3:fsc.names=f.scope.names)(s4:(fsc.names.map (·.1)).Nodup)(h5:∀ q∈f.scope.names,q.2≠.free)
  (eK:∀ y,env.kindOf y=fsc.names.lookup y) (eC:env.cells=aeO (L+1) fsc.names []) (rb:kJ c g b bs) (nd:(bs.map (·.1)).Nodup) (hcell:∀ y c',env.cells.lookup y=some c'->h₁.IsCell c' (bindC env.kindOf bs (λ_=>none) y))
  (I:Inv (c.at X fs L) {g with m:=bindL env.kindOf bs λ_=>none} H h₁) (hF:∀ a,L+1<=a->bc (c.at X fs L) {g with m:=bindL env.kindOf bs λ_=>none} H a):
  ∃ g',Ext g g'∧Rel (Am.of c X fs fr A f.scope env L d) g' ⟨dG f.scope.names b H.length,H++eE f.scope.names b⟩ h₁:=by
 have xs:Ext g {g with m:=bindL env.kindOf bs λ_=>none}:=⟨adt⟩
 rw[h3]at eK eC s4
 have kd {i:Nat} {y:Str} {k:aax} (hi:f.scope.names[i]? =some (y,k)):env.kindOf y=some k:=(eK y).trans (lookup_at s4 hi)
 obtain⟨g',xg,em,I₂,hcel⟩:=Fw (c:=c.at X fs L) (b:=b) hcell f.scope.names (L+1) [] _ H I s4 (λy hy=>by
   obtain⟨i,hi⟩:=abG hy
   rw[Fs nd (by rw[kd hi];exactλz=>abc (aae.inj z))]
   exact(rb.lookup y).mono xs) (λy _=>by rw[eC]) hF
 refine⟨g',xs.trans xg,I₂,Fx _,λi y v e e'=>?_,λi y k e hk=>?_⟩
 ·rw[Fy _ e]at e'
  rw[<-aae.inj e',em]
  show cN _ g' (b.lookup y) (bindL env.kindOf bs (λ_=>none) y)
  rw[Fq nd (kd e)]
  exact(rb.lookup y).mono (xs.trans xg)
 ·rcases hk with rfl |rfl
  ·obtain⟨a,y,z,q1,q2,q3⟩:=hcel i y e
   exact⟨a,y,z,q1,q2,q3⟩
  ·exact absurd rfl (h5 _ (abw e))
theorem wN{c:Cx}{X:List (Addr×Obj)}{fs:List (Addr×(Str->Option Value))}{fr:List Env}{H:Hp}(PK:cO c P K mg mb)(sys:∃ o,c.b₀.get? acw=some o){a:Addr}{f:Fn}(F:jE c a f){d:Nat}{A:aaY}
  (hfr:A.frames=some fr) (hhd:A.handled=none) (hgr:A.guards=some []) (hdp:A.depth+1+4*(d+1)<adq) (hun:A.units+3+24*(d+1)<cLine) (hfk:∀ e∈fr,e.scope.kind=.function∧∃ a,e.frame=some a∧a∈fs.map (·.1))
  {args:List V} {rs:Vs} {b:List (Str×V)} (hb:binds f args=some b) {s:aaC} (keepb:∀ b o,c.b₀.get? b=some o->s.heap.get? b=some o) (va:aA c g args rs)
  (hI:∀ m' h',(∀ b o,s.heap.get? b=some o->h'.get? b=some o)->h'.Ns s.heap.objs.size m'->Inv (c.at X fs s.heap.objs.size) {g with m:=m'} H h')
  (hF:∀ m' a,s.heap.objs.size+1<=a->bc (c.at X fs s.heap.objs.size) {g with m:=m'} H a)
  {Rr:aez->Sh}
  (k:∀ env g' h' tk,aB (Am.of c X fs fr (A.deeper env) f.scope env s.heap.objs.size d) P K mg mb->Ext g g'->(∀ b o,s.heap.get? b=some o->h'.get? b=some o)->
   Rel (Am.of c X fs fr (A.deeper env) f.scope env s.heap.objs.size d) g' ⟨dG f.scope.names b H.length,H++eE f.scope.names b⟩ h'->
   ao (model c.prog c.w) (A.deeper env) (execs f.body env) (λfl s₂=>Rr (.ok (.ret (n5 fl))) s₂) (λe s₂=>ao (model c.prog c.w) (A.deeper env) (leaving env e) (λ_ s₃=>Rr (.error e) s₃) (λe' s₃=>Rr (.error e') s₃) s₂) {s with heap:=h',toks:=tk}):
  codeN (model c.prog c.w) A (.call (.ref a) ⟨rs,[]⟩) Rr s:=by
 obtain⟨o,fd,ps,kd,ds,h1,h2,h3,h4,h5,h6,h7,h8,h9,h10,h11,h12,h13,h14,h17⟩:=F
 obtain⟨s1,s2,s3,s4,s5⟩:=ma h4
 have lV:args.length=rs.length:=aA.length va
 have key:bT λargs' rs'=>aO (b=f.params.zip args') (aA c g args' rs') (BindsTo s fd ⟨rs,[]⟩ ((ps.map (·.arg)).zip rs')):=by
  rcases FJ hb with ⟨b1,b2⟩ | ⟨b1,b2,b3⟩
  ·have hD:DfltIs s.heap fd.defaults:=h14.1.imp id λ⟨T,o,xs,n,e1,e2,e3⟩=>⟨T,o,xs,n,e1,keepb _ _ e2,e3⟩
   exact⟨args,rs,b2,va,Ff (s:=s) (vals:=rs) h11 (h12▸h13) hD (h12▸lV.symm.trans b1)⟩
  ·obtain⟨T,o,n,e1,e2,e3⟩:=h14.2 b2
   exact⟨args++[.none],rs++[.none],b3,va.append (.cons .none .nil),Fj (s:=s) (vals:=rs) h11 (h12▸h13) ⟨T,o,n,e1,keepb _ _ e2,e3⟩ (h12▸lV▸b1)⟩
 obtain⟨args',rs',rfl,va',B⟩:=key
 rw[h12]at B
 have nd:((f.params.zip rs').map (·.1)).Nodup:=FI h13
 refine FG (keepb _ _ h1) h2 s2 s3 (h9.keeps keepb) B (aba (aah (aeI _ 1) (aeI _ _)) hdp) ?_
 rw[h6,h10]
 refine wpAny_newFunctionEnv_cells s1 (λx hx=>(h17 x.1 (aeS hx).1).imp (λq=>h3▸q) λq=>⟨h3▸q,Fz s4 (h3▸q)⟩) λenv he s' x=>?_
 rw[h7,h8]at he
 have x0:=x.toInCall
 obtain⟨h₁,tk1,rfl⟩:=x0.same
 have hk₁:∀ b o,s.heap.get? b=some o->h₁.get? b=some o:=x0.keep
 refine⟨(PK.lim.keeps keepb).keeps hk₁,fy ?_ rfl⟩
 show ao _ (A.deeper env) (point>>=λ_=>(execs f.body env).onRaise (leaving env)>>=_) _ _ _
 have eL:env.locals=s.heap.objs.size:=he▸rfl
 obtain⟨g',xg,Rf⟩:=FK (fr:=fr) (A:=A.deeper env) (d:=d) h3 s4 h5 (λy=>he▸rfl) (he▸rfl) (kJ.zip va' f.params) nd x.cell (hI _ h₁ hk₁ (eL▸x0.ns)) (λa ha=>hF _ a ha)
 have Gf:aB (Am.of c X fs fr (A.deeper env) f.scope env s.heap.objs.size d) P K mg mb:=⟨FH he h3 h4 hfr hhd hgr hdp hun hfk,PK.at,sys⟩
 refine As (az (gG (fH (k env g' h₁ tk1 Gf xg hk₁ Rf) (λfl s₂ h=>?_) λ_ _ h=>h)))
 cases fl<;>exact aK h
theorem FL{c:Cx}{H:Hp}{h:Heap}(I:Inv c g H h):c.b₀.objs.size<=h.objs.size:=by
 obtain⟨ob,q,_⟩:=I.sat (c.N,b9 g.m) (.head _)
 exact acR (aba I.above (abN q))
theorem gO.FN{A:aaY}(HA:gO m A)(O:bE m){d:Nat}(hd:m.d=d+1):A.depth+1+4*(d+1)<adq:=by
 have:=HA.dep;have:=O.dep;rw[hd]at this;lia
theorem gO.FO{A:aaY}(HA:gO m A)(O:bE m){d:Nat}(hd:m.d=d+1):A.units+3+24*(d+1)<cLine:=by
 have:=HA.hV;have:=O.hV;rw[hd]at this;lia
theorem rp(G:aB m P K mg mb){a:Addr}{f:Fn}(F:jE m.c a f){d:Nat}(hd:m.d=d+1){A:aaY}(HA:gO m A){args:List V}{rs:Vs}{b:List (Str×V)}(hb:binds f args=some b){s:aaC}(R:Rel m g st s.heap)(va:m.aA g args rs)
  {Rr:aez->Sh}
  (k:∀ env L g' h' tk,aB (m.fn g.m (A.deeper env) f.scope env L d) P K mg mb->Ext g g'->(∀ b o,s.heap.get? b=some o->h'.get? b=some o)->s.heap.get? L=none->
   Rel (m.fn g.m (A.deeper env) f.scope env L d) g' ⟨dG f.scope.names b st.H.length,st.H++eE f.scope.names b⟩ h'->
   ao (model m.c.prog m.c.w) (A.deeper env) (execs f.body env) (λfl s₂=>Rr (.ok (.ret (n5 fl))) s₂) (λe s₂=>ao (model m.c.prog m.c.w) (A.deeper env) (leaving env e) (λ_ s₃=>Rr (.error e) s₃) (λe' s₃=>Rr (.error e') s₃) s₂) {s with heap:=h',toks:=tk}):
  codeN (model m.c.prog m.c.w) A (.call (.ref a) ⟨rs,[]⟩) Rr s:=by
 refine wN (c:=m.c) (X:=m.c.X) (fs:=(m.c.N,g.m)::m.c.fs) (fr:=m.cZ::m.outer) (H:=st.H) G.PK G.sys F HA.frames HA.df HA.fR (d:=d) (HA.FN G.O hd) (HA.FO G.O hd) G.O.fk hb R.inv.base va (λm' h' hk hns=>Inv.enter (L:=s.heap.objs.size) R.inv (dP _) hk hns (FL R.inv)) (λm' a ha=>?_)
  λenv g' h' tk Gf x0 hk Rf=>k env s.heap.objs.size g' h' tk Gf x0 hk (dP _) Rf
 have F:=R.inv.free (ko (h:=s.heap) (a:=a) (aev ha))
 refine⟨λz hz=>?_,F.2⟩
 rw[lT]at hz
 rcases acB.mp hz with rfl |hz
 ·exact abY ha
 ·exact F.1 z hz
end
end
section
open _root_.PySem.SeqAt
section
variable {c:Cx} {g:Gs} {H:Hp} {h:Heap} {L:Addr} {m₀:Str->Option Value}
theorem bc.leave{a:Addr}(F:bc (c.at c.X ((c.N,m₀)::c.fs) L) g H a):bc c {g with m:=m₀} H a:=
 ⟨λx hx=>F.1 x ((lT (c:=c) (g:={g with m:=m₀}) (m':=g.m) (L:=L) (H:=H))▸.tail _ hx),F.2⟩
theorem eF.leave{e k:Addr}{fl:Option Value}(X:eF (c.at c.X ((c.N,m₀)::c.fs) L) g H h e k fl):eF c {g with m:=m₀} H h e k fl:=by
 obtain⟨oe,vs,a0,I,h⟩:=X
 refine⟨oe,vs,a0,⟨I.free.leave,I.get,I.cls,I.data,I.zero⟩,?_⟩
 cases fl with
 |none=>exact h
 |some v=>
  obtain⟨T,oT,ts,J⟩:=h
  exact⟨T,oT,ts,J.one,J.free.leave,J.ne,J.get,J.data,J.three⟩
end
section
variable {m:Am} {g g':Gs} {st st':St} {P:a9} {K:Frag} {mg mb:Str->Option Value}
theorem Rel.leave{A:aaY}{sc:Scope}{env:Env}{L:Addr}{d:Nat}{h h':Heap}(R:Rel m g st h)(R':Rel (m.fn g.m A sc env L d) g' st' h')(x:Ext g g'):Rel m {g' with m:=g.m} {lo:=st.lo,H:=st'.H} h':=
 ⟨Inv.exit (c:=m.c) R'.inv R.inv.above,R.loc.mono ⟨x.ρ⟩ rfl⟩
theorem FP{A:aaY}{sc:Scope}{env:Env}{L:Addr}{d:Nat}{v:V}{r:Value}{m₀:Str->Option Value}(q:(m.fn m₀ A sc env L d).VR g' v r):m.VR {g' with m:=m₀} v r:=VR.mono (g:=g') (g':={g' with m:=m₀}) ⟨adt⟩ q
noncomputable def n6:Fl->V
 | .next=>.none
 | .ret v=>v
noncomputable def rr {α:Type} (f:α->V) (lo:Lo):R α->R V
 | .ok r s=>.ok (f r) {s with lo:=lo}
 | .exc k s=>.exc k {s with lo:=lo}
 | .no=>.no
theorem FQ{α β:Type}{t:Sem β}{r:Lite.R α}{rel:Gs->α->β->Prop}{f:α->V}{fb:β->Value}{A:aaY}{sc:Scope}{env:Env}{L:Addr}{d:Nat}{st₁:St}{g₁:Gs}{h h₁:Heap}(hn:Np (m.fn g.m A sc env L d) g₁ st₁ t r rel)(O:bE (m.fn g.m A sc env L d))(R:Rel m g st h)(x:Ext g g₁)(R₁:Rel (m.fn g.m A sc env L d) g₁ st₁ h₁)
  (hr:∀ g' a b,rel g' a b->m.VR {g' with m:=g.m} (f a) (fb b)) {s:aaC} {tk:Tok} {Q E:Value->Sh} (Pp:bW m g (rr f st.lo r) m.VR Q E s):
  ao (model m.c.prog m.c.w) A t (λb s₂=>Q (fb b) s₂) (λe s₂=>ao (model m.c.prog m.c.w) A (leaving env e) (λ_ s₃=>E e s₃) (λe' s₃=>E e' s₃) s₂) {s with heap:=h₁,toks:=tk}:=by
 have xe (g₂:Gs) (x₂:Ext g₁ g₂):Ext g {g₂ with m:=g.m}:=⟨(x.trans x₂).ρ⟩
 refine hn.use (s:={s with heap:=h₁,toks:=tk}) R₁ (λa st2 e2 g₂ h₂ tk2 b x₂ R₂ q₂=>?_) (λk st2 e2 g₂ h₂ tk2 e x₂ R₂ X=>?_) λe2=>?_
 ·rw[e2]at Pp
  exact Pp _ h₂ tk2 _ (xe g₂ x₂) (R.leave R₂ (x.trans x₂)) (hr g₂ a b q₂)
 ·rw[e2]at Pp
  refine bt (wpAny_bind (qP (s:={s with heap:=h₂,toks:=tk2}) O rfl R₂ X λh₃ R₃ X3=>?_))
  exact nR (s:={s with heap:=h₃,toks:=tk2}) (fr:=none) R₃ X3 λh₄ R4 X4=>Pp {g₂ with m:=g.m} h₄ tk2 e (xe g₂ x₂) (R.leave R4 (x.trans x₂)) ⟨some .none,.inr (.inl rfl),X4.leave⟩
 ·rw[e2]at Pp;exact Pp.elim
theorem FT(G:aB m P K mg mb){a:Addr}{f:Fn}(F:jE m.c a f){d:Nat}(hd:m.d=d+1){A:aaY}(HA:gO m A){args:List V}{rs:Vs}{b:List (Str×V)}(hb:binds f args=some b){s:aaC}(R:Rel m g st s.heap)(va:m.aA g args rs){body:M Fl}
  (hbody:∀ m',aB m' P K mg mb->m'.d=d->m'.lv=true->m'.sc=f.scope->m'.env=m'.cZ->∀ g st,Np m' g st (execs f.body m'.env) (body st) (aT m')) {Q:Value->Sh} {E:Value->Sh}
  (Pp:bW m g (rr n6 st.lo (body ⟨dG f.scope.names b st.H.length,st.H++eE f.scope.names b⟩)) m.VR Q E s):
  codeN (model m.c.prog m.c.w) A (.call (.ref a) ⟨rs,[]⟩) (λr s'=>match r with | .ok (.ret v)=>Q v s' | .ok _=>False | .error e=>E e s') s:=by
 refine rp G F hd HA hb R va λenv L g' h' tk Gf x0 hk hL Rf=>?_
 exact FQ (fb:=n5) (hbody _ Gf rfl rfl rfl rfl g' _) Gf.O R x0 Rf (λg₂ a b q=>by
  cases a with
  |next=>rw[show b=.next from q];exact VR.none
  |ret v=>obtain⟨r,rfl,hv⟩:=q;exact FP hv) Pp
end
end
section
open _root_.PySem.SeqAt
section
variable {prog:acI} {w:World} {A:aaY} {E:Value->Sh} {s:aaC}
noncomputable abbrev mk (A:aaY) (C:Addr) (rest:Vs):aaY:=A.under (.builtin "type.__call__" ⟨.ref C::rest,[]⟩)
structure Made(M:Model)(h:Heap)(C:Addr)(newId:String):Prop where
 obj:∃ oc od cd sl,h.get? C=some ⟨oc,od,.cls cd,sl⟩
 mro:∃ c l,Looks M h (mroOf (.ref C)) (c::l)
 made:Looks M h (Bind.madeBy (.ref C)) (some newId)
 call:Looks M h (ahb (.ref C) "__call__") (some (.builtin "type.__call__"))
 typ:Looks M h (aeK (.ref C) (.type "type")) true
theorem FU{newId:String}{C:Addr}{rest:Vs}{R:aez->Sh}(Y:Made (model prog w) s.heap C newId)
  (h:ao (model prog w) (mk A C rest) (aaD.«type.__call__» ⟨.ref C::rest,[]⟩) (λfin s'=>match fin with | .done f=>R (.ok f) s' | .again c'=>c'.quiet=true∧codeN (model prog w) A c' R s') (λe s'=>R (.error e) s') s):
  codeN (model prog w) A (.call (.ref C) ⟨rest,[]⟩) R s:=by
 obtain⟨⟨oc,od,cd,sl,hC⟩,hmro,made,call,typ⟩:=Y
 refine fy ?_ rfl
 show ao _ A.in1 (aje (.ref C) ⟨rest,[]⟩) _ _ _
 show ao _ A.in1 (load C>>=_) _ _ _
 refine aC (aeq hC ?_)
 show ao _ _ (aje.viaDunder (.ref C) _) _ _ _
 unfold aje.viaDunder
 refine aC (call.here ?_)
 dsimp only
 dsimp only[cq,bZ]
 rw[tc_bind]
 refine az (aK (az (aK ?_)))
 refine aK (a:=Fin.again (.call (.builtin "type.__call__") ⟨.ref C::rest,[]⟩)) (aiW rfl (fy ?_ rfl))
 show ao _ A.in1 (do abS "type.__call__" _;again (.builtin "type.__call__" _)) _ _ _
 refine az (bt (ahJ tc_kind tc_split typ (tc_args _ _ _) (aK ⟨afw _ (by decide+kernel),pf entry_typeCall (by decide+kernel) h⟩)))
theorem wO{newId:String}{C:Addr}{rest:Vs}{Q:Value->Sh}(Y:Made (model prog w) s.heap C newId)
  (hnew:wpAny (model prog w) (mk A C rest) (aal (.builtin newId) (.ref C::rest)) (λobj s₁=>∃ x init,obj=.ref x∧Looks (model prog w) s₁.heap (aeK (.ref x) (.ref C)) true∧Looks (model prog w) s₁.heap (ahb (.ref x) "__init__") (some init)∧
   Looks (model prog w) s₁.heap (bindSpecial init (.ref x)) (init,[.ref x])∧ao (model prog w) (mk A C rest) (aal init (.ref x::rest)) (λr s₂=>r=.none∧Q (.ref x) s₂) E s₁) E s):
  codeN (model prog w) A (.call (.ref C) ⟨rest,[]⟩) (λr s'=>match r with | .ok (.ret v)=>Q v s' | .ok _=>False | .error e=>E e s') s:=by
 refine FU Y ?_
 obtain⟨-,⟨c,l,hmro⟩,made, -, -⟩:=Y
 unfold aaD.«type.__call__»
 dsimp only
 refine dc rfl ?_
 refine aC (hmro.here ?_)
 refine dc rfl ?_
 refine aC (made.here ?_)
 dsimp only[cq,bZ]
 refine az (aK ?_)
 refine az (bN (bt (agB hnew (λobj s₁ h₁=>?_) λ_ _ e=>e)))
 obtain⟨x,init,rfl,i1,i2,i3,h₁⟩:=h₁
 refine aC (i1.here ?_)
 refine dc rfl ?_
 refine az (bN ?_)
 unfold adY
 refine aC (i2.here ?_)
 dsimp only
 refine bN (aC (i3.here ?_))
 refine az (fH h₁ (λr s₂ h₂=>?_) λ_ _ e=>e)
 obtain⟨rfl,h₂⟩:=h₂
 refine aK ?_
 dsimp only[cq,bZ]
 refine dc rfl ?_
 exact aK h₂
end
end
section
open _root_.PySem.SeqAt
section
variable {m:Am} {g:Gs} {st:St} {α:Type} {P:a9} {K:Frag} {mg mb:Str->Option Value} {ev:Expr->M V}
theorem ie{ex:Stmt->M Fl}(H:∀ s,dr m (exec s m.env) (ex s) (aT m))(ss:List Stmt):∀ (g:Gs) (st:St),Np m g st (execs ss m.env) (bH ex ss st) (aT m):=by
 induction ss with
 |nil=>exactλg st=>Np.pure .next
 |cons s ss ih=>
  intro g st
  rw[afO]
  refine Np.bind (H s g st) λfl st₁ g₁ fl' e1 x q=>?_
  cases fl with
  |next=>rw[show fl'=.next from q];exact ih g₁ st₁
  |ret v=>obtain⟨r,rfl,hv⟩:=q;exact Np.pure (.ret hv)
theorem rt(O:bE m):interactive m.env=false:=by
 unfold interactive
 rw[O.env.kind]
 rfl
theorem n7{line:Nat}{env:Env}(t:Option Expr)(v:Expr):jw v=true->aeP v t line env=pure false:=
 aaO (motive_1:=λv=>jw v=true->aeP v t line env=pure false) v (λ_ _ _ _=>rfl) (λ_ _ _ _=>rfl) (λ_ _ _ _ _=>rfl) (λ_ _ _ _=>rfl) (λ_ _ _ _ _=>rfl) (λ_ _ _ _ _=>rfl) (λ_ _ _ _=>rfl) (λ_ _ _ _=>rfl) (λ_ _ _ _ h=>aaa h) (λ_ _ _ _ h=>aaa h) (λ_ _ _ _ _ h=>aaa h) (λ_ _ _ _ _=>rfl) (λ_ _ _=>rfl) (λ_ _ _=>rfl) (λ_ _ _=>rfl) (λ_ _ _ _ _=>rfl) (λ_ _ _ _ _=>rfl) (λ_ _ _ _ _=>rfl) (λ_ _ _=>rfl) (λ_ _ _ _=>rfl) (λ_ _ _ _=>rfl) (λ_ _ _ _=>rfl) (λ_ _ _=>rfl) (λ_ _ _=>rfl) (λ_ _ _=>rfl) (λ_ _ _ _=>rfl) (λ_ _ _ _ _=>rfl)
noncomputable abbrev rz (p:Pos) (v:Value):Sem Flow:=afu (.JoinedStr [] p) p v
theorem wQ{p:Pos}{v:Value}{s:aaC}{Q:Flow->Sh}{E:Value->Sh}(h:Q .next s):wpAny (model m.c.prog m.c.w) m.A (rz p v) Q E s:=by
 cases v with
 |ref a=>exact wpAny_bind (agj (wpAny_bind (wpAny_runValue (afr entry_let_go (show wpAny _ _ (ret .none) _ _ s from aai (aai h))))))
 |_=>exact aai h
set_option smartUnfolding false in
theorem wR(p:Pos)(v:Value)(e:Expr):afu e p v=pure .next∨afu e p v=rz p v:=
 aaO (motive_1:=λe=>afu e p v=pure .next∨afu e p v=rz p v) e (λx0 x1 x2=>.inr rfl) (λx0 x1 x2=>.inr rfl) (λx0 x1 x2 x3=>.inr rfl) (λx0 x1 x2=>.inr rfl) (λx0 x1 x2 x3=>.inr rfl) (λx0 x1 x2 x3=>.inr rfl) (λx0 x1 x2=>.inr rfl) (λx0 x1 x2=>.inr rfl) (λx0 x1 x2 x3=>.inr rfl) (λx0 x1 x2 x3=>.inr rfl) (λx0 x1 x2 x3 x4=>.inr rfl) (λx0 x1 x2 x3=>.inr rfl) (λx0 x1=>.inr rfl) (λx0 x1=>.inr rfl) (λx0 x1=>.inr rfl) (λx0 x1 x2 x3=>.inr rfl) (λx0 x1 x2 x3=>.inr rfl) (λx0 x1 x2 x3=>.inr rfl) (λx0 x1=>.inr rfl) (λx0 x1 x2=>.inr rfl) (λx0 x1 x2=>.inr rfl) (λx0 x1 x2=>.inr rfl) (λx0 x1=>.inr rfl) (λx0 x1=>.inl rfl) (λx0 x1=>.inr rfl) (λx0 x1 x2=>.inr rfl) (λx0 x1 x2 x3=>.inr rfl)
theorem FV(G:aB m P K mg mb)(H:bf m ev)(v:Expr)(p:Pos):Np m g st (exec (.Expr v p) m.env) ((do guard (jw v);let _<-ev v;return .next:M Fl) st) (aT m):=by
 rw[ail,rt G.O]
 refine Np.aL λhn=>Np.standAt ?_
 rw[if_neg abe,n7 _ _ hn]
 refine fJ ?_
 rw[if_neg abe]
 refine Np.bind (H.snd v g st) λa st₁ g₁ r e1 x q s Q E R Pp=>bt ?_
 have h:=Pp g₁ s.heap s.toks .next (.refl g₁) R .next
 rcases wR p r v with e |e
 ·rw[e];exact aai h
 ·rw[e];exact wQ h
theorem FW(p:Pos):Np m g st (exec (.Pass p) m.env) ((pure .next:M Fl) st) (aT m):=by
 rw[arm_exec_Pass];exact Np.standAt (Np.pure .next)
theorem FX(p:Pos):Np m g st (exec (.Return none p) m.env) ((pure (.ret .none):M Fl) st) (aT m):=by
 rw[arm_exec_Return]
 exact Np.standAt (Np.pure (.ret .none))
theorem FY(H:bf m ev)(e:Expr)(p:Pos):Np m g st (exec (.Return (some e) p) m.env) ((do let v<-ev e;return .ret v:M Fl) st) (aT m):=by
 rw[arm_exec_Return]
 refine Np.standAt ?_
 show Np m g st (eval e m.env>>=λv=>pure (Flow.ret v)) _ _
 exact Np.bind (H.snd e g st) λa st₁ g₁ r e1 x q=>Np.pure (.ret q)
theorem FZ(G:aB m P K mg mb)(H:bf m ev){ex:Stmt->M Fl}(HX:∀ s,dr m (exec s m.env) (ex s) (aT m))(n:Nat)(t:Expr)(b o:List Stmt)(p:Pos):
  Np m g st (exec (.If t b o p) m.env) ((do if<-gK ev n t then bH ex b else bH ex o:M Fl) st) (aT m):=by
 rw[arm_exec_If]
 refine Np.standAt (Np.bind (qM G H n t g st) λa st₁ g₁ b' e1 x hb=>?_)
 rw[<-show a=b' from hb]
 cases a with
 |true=>exact ie HX b g₁ st₁
 |false=>exact ie HX o g₁ st₁
theorem F0(G:aB m P K mg mb)(H:bf m ev)(o i:Expr)(sp p:Pos):Np m g st (exec (.Delete [.Subscript o i sp] p) m.env) ((do let ov<-ev o;let iv<-ev i;jt ov iv;return .next:M Fl) st) (aT m):=by
 rw[arm_exec_Delete]
 refine Np.standAt ?_
 simp only[arm_deleteEach_cons,arm_deleteEach_nil,arm_delete_Subscript]
 simp only[bind_assoc]
 refine Np.bind (H.snd o g st) λov st₁ g₁ ro e1 x₁ vo=>?_
 refine Np.bind (Np.holding (H.snd i g₁ st₁)) λiv st2 g₂ ri e2 x₂ vi=>Np.standAt ?_
 refine Np.bind (Np.holding (B0 (vo.mono x₂) vi).np) λu st3 g₃ u' e3 x₃ _=>?_
 exact Np.release (fJ (Np.pure .next))
end
end
section
open _root_.PySem.SeqAt
theorem F4{α β:Type}{f:α->Option β}{l:List α}(h:(l.filterMap f).length=l.length):∀ a∈l,∃ b,f a=some b:=by
 induction l with
 |nil=>exactλ_ h=>nomatch h
 |cons a l ih=>
  cases q:f a with
  |none=>
   rw[List.filterMap_cons_none q]at h
   exact absurd (h▸List.length_filterMap_le f l) (Nat.not_succ_le_self _)
  |some b=>
   rw[ach q]at h
   exact aas.mpr ⟨⟨b,q⟩,ih (acu.inj h)⟩
theorem F5{α:Type}{c1 c2 c3 c4 c5:Bool}{a b U:α}:(if c1=true then a else if c2=true then a else if c3=true then a else if c4=true then a else if c5=true then U else b)=a∨aO (c1=false) (c3=false) ((if c1=true then a else if c2=true then a else if c3=true then a else if c4=true then a else if c5=true then U else b)=if c5=true then U else b):=by
 cases c1 with
 |true=>exact .inl rfl
 |false=>cases c2 with
  |true=>exact .inl rfl
  |false=>cases c3 with
   |true=>exact .inl rfl
   |false=>cases c4 with
    |true=>exact .inl rfl
    |false=>exact .inr ⟨rfl,rfl,rfl⟩
theorem rA{α:Type}{l:List α}(h:l.length=2):∃ a b,l=[a,b]:=by
 cases l with
 |nil=>exact acP h
 |cons a l=>cases l with
  |nil=>exact acP (acu.inj h)
  |cons b l=>cases l with
   |nil=>exact⟨a,b,rfl⟩
   |cons c l=>exact acP (acu.inj (acu.inj h))
theorem wU{α:Type}{l:List α}(h:l.length=3):∃ a b c,l=[a,b,c]:=by
 cases l with
 |nil=>exact acP h
 |cons a l=>obtain⟨b,c,e⟩:=rA (acu.inj h);exact⟨a,b,c,e▸rfl⟩
theorem F6{n:Str}{l:List Str}(h:n∈l)(k:(n::l).eraseDups.length=(n::l).length)(ih:∀ l':List Str,l'.length<l.length->l'.eraseDups.length<=l'.length):False:=by
 rw[afo]at k
 have k:=acu.inj k
 have lt:(l.filter λb=>!b==n).length<l.length:=by
  rcases Nat.lt_or_eq_of_le (aeT (λb=>!b==n) l)with q |q
  ·exact q
  ·have:=List.length_filter_eq_length_iff.mp q n h
   rw[beq_self_eq_true]at this;exact aaa this
 exact aeC _ (aba (k▸ih _ lt) lt)
theorem wV:∀ (n:Nat) (l:List Str),l.length<n->l.eraseDups.length<=l.length
 | 0,_,h=>absurd h (aed _)
 |n+1,l,h=>by
  cases l with
  |nil=>exact aaZ _
  |cons a l=>
   rw[afo]
   have q:=aeT (λb=>!b==a) l
   exact abE (aah (wV n _ (aba q (Nat.lt_of_succ_lt_succ h))) q)
theorem me{n:Str}{l:List Str}(k:(n::l).eraseDups.length=(n::l).length):n ∉ l:=λh=>F6 h k λl' _=>wV _ l' (aiM _)
theorem F7{n:Str}{l:List Str}(k:(n::l).eraseDups.length=(n::l).length):l.eraseDups.length=l.length:=by
 have h:=me k
 rw[afo,List.filter_eq_self.mpr λa ha=>by
  cases e:a==n with
  |false=>rfl
  |true=>exact absurd (eq_of_beq e▸ha) h]at k
 exact acu.inj k
theorem F8{env:Env}{x n:Str}{q:Pos}{b:Bool}(h:(if (env.kindOf x==some .local&&b)=true then some x else none)=some n):∃ q',agr x q=.Name n q'∧env.kindOf n=some .local:=by
 by_cases hc:(env.kindOf x==some .local&&b)=true
 ·rw[if_pos hc]at h
  have h:=aae.inj h
  subst h
  exact⟨q,rfl,beq_iff_eq.mp (aab.mp hc).1⟩
 ·rw[if_neg hc]at h;exact ai h
theorem F9(ts vs:List Expr)(k p k' p')(env:Env):∃ (f:Expr->Option Str) (c1 c2 c4:Bool) (U:Sem (Option (List Str))),(∀ e n,f e=some n->∃ q,e=.Name n q∧env.kindOf n=some .local)∧
  acM [.Tuple ts k p] (.Tuple vs k' p') env=if c1=true then pure none else if c2=true then pure none else if ((ts.filterMap f).length != ts.length||(ts.filterMap f).eraseDups.length != (ts.filterMap f).length)=true then pure none else if c4=true then pure none else if vs.all (afK 8)=true then U else pure (some (ts.filterMap f)):=by
 refine⟨_,_,_,_,_,λe n=>?_,rfl⟩
 exact aaO e (λ_ _ _ h=>ai h) (λ_ _ _ h=>ai h) (λ_ _ _ _ h=>ai h) (λ_ _ _ h=>ai h) (λ_ _ _ _ h=>ai h) (λ_ _ _ _ h=>ai h) (λ_ _ _ h=>ai h) (λ_ _ _ h=>ai h) (λ_ _ _ _ h=>ai h) (λ_ _ _ _ h=>ai h) (λ_ _ _ _ _ h=>ai h) (λ_ _ _ _ h=>ai h) (λ_ _ h=>ai h) (λ_ _ h=>ai h) (λ_ _ h=>ai h) (λ_ _ _ _ h=>ai h) (λ_ _ _ _ h=>ai h) (λ_ _ _ _ h=>ai h) (λ_ _ h=>ai h) (λ_ _ _ h=>ai h) (λ_ _ _ h=>ai h) (λ_ _ _ h=>ai h) (λ_ _ h=>ai h) (λx q=>λh=>F8 h) (λ_ _ h=>ai h) (λ_ _ _ h=>ai h) (λ_ _ _ _ h=>ai h)
theorem Ga(ts:List Expr)(k p)(v:Expr)(env:Env):acM [.Tuple ts k p] v env=pure none∨cW λvs k' p'=>v=.Tuple vs k' p':=aaO (motive_1:=λv=>acM [.Tuple ts k p] v env=pure none∨cW λvs k' p'=>v=.Tuple vs k' p') v (λx0 x1 x2=>.inl rfl) (λx0 x1 x2=>.inl rfl) (λx0 x1 x2 x3=>.inl rfl) (λx0 x1 x2=>.inl rfl) (λx0 x1 x2 x3=>.inl rfl) (λx0 x1 x2 x3=>.inl rfl) (λx0 x1 x2=>.inl rfl) (λx0 x1 x2=>.inl rfl) (λx0 x1 x2 x3=>.inl rfl) (λx0 x1 x2 x3=>.inl rfl) (λx0 x1 x2 x3 x4=>.inl rfl) (λx0 x1 x2 x3=>.inl rfl) (λx0 x1=>.inl rfl) (λx0 x1=>.inl rfl) (λx0 x1=>.inl rfl) (λx0 x1 x2 x3=>.inl rfl) (λx0 x1 x2 x3=>.inl rfl) (λx0 x1 x2 x3=>.inl rfl) (λx0 x1=>.inl rfl) (λx0 x1 x2=>.inl rfl) (λx0 x1 x2=>.inl rfl) (λx0 x1 x2=>.inl rfl) (λx0 x1=>.inl rfl) (λx0 x1=>.inl rfl) (λx0 x1=>.inl rfl) (λa b c=>.inr ⟨a,b,c,rfl⟩) (λx0 x1 x2 x3=>.inl rfl)
theorem Gb(t v:Expr)(env:Env):(t.ctorIdx==24)=false->acM [t] v env=pure none∨cW λts k p=>t=.Tuple ts k p:=aaO (motive_1:=λt=>(t.ctorIdx==24)=false->acM [t] v env=pure none∨cW λts k p=>t=.Tuple ts k p) t (λx0 x1 x2=>λ_=>.inl rfl) (λx0 x1 x2=>λ_=>.inl rfl) (λx0 x1 x2 x3=>λ_=>.inl rfl) (λx0 x1 x2=>λ_=>.inl rfl) (λx0 x1 x2 x3=>λ_=>.inl rfl) (λx0 x1 x2 x3=>λ_=>.inl rfl) (λx0 x1 x2=>λ_=>.inl rfl) (λx0 x1 x2=>λ_=>.inl rfl) (λx0 x1 x2 x3=>λ_=>.inl rfl) (λx0 x1 x2 x3=>λ_=>.inl rfl) (λx0 x1 x2 x3 x4=>λ_=>.inl rfl) (λx0 x1 x2 x3=>λ_=>.inl rfl) (λx0 x1=>λ_=>.inl rfl) (λx0 x1=>λ_=>.inl rfl) (λx0 x1=>λ_=>.inl rfl) (λx0 x1 x2 x3=>λ_=>.inl rfl) (λx0 x1 x2 x3=>λ_=>.inl rfl) (λx0 x1 x2 x3=>λ_=>.inl rfl) (λx0 x1=>λ_=>.inl rfl) (λx0 x1 x2=>λ_=>.inl rfl) (λx0 x1 x2=>λ_=>.inl rfl) (λx0 x1 x2=>λ_=>.inl rfl) (λx0 x1=>λ_=>.inl rfl) (λx0 x1=>λ_=>.inl rfl) (λa b=>λh=>aaa h) (λts k p=>λ_=>.inr ⟨ts,k,p,rfl⟩) (λx0 x1 x2 x3=>λ_=>.inl rfl)
theorem Ge{m:Am}(O:uQ m.c m.sc m.env){n:Str}{q:Pos}(h:lK m.sc (.Name n q)=true)(k:m.env.kindOf n=some .local):False:=by
 have h:(match m.sc.names.lookup n with |some .cell=>true |some .free=>true |_=>false)=true:=h
 have key:m.sc.names.lookup n=some .cell∨m.sc.names.lookup n=some .free:=by
  revert h
  cases m.sc.names.lookup n with
  |none=>exactλh=>aaa h
  |some x=>cases x<;>first |exactλ_=>.inl rfl |exactλ_=>.inr rfl |exactλh=>aaa h
 rcases O.cx n key with w |w<;>exact abc (aae.inj (k.symm.trans w))
def wW(env:Env)(ts:List Expr)(l:List Str):Prop:=
 (d9 λn1 q1 n2 q2=>gd (ts=[.Name n1 q1,.Name n2 q2]) (l=[n1,n2]) (n1≠n2) (env.kindOf n1=some .local) (env.kindOf n2=some .local))∨
 iH λn1 q1 n2 q2 n3 q3=>j8 (ts=[.Name n1 q1,.Name n2 q2,.Name n3 q3]) (l=[n1,n2,n3]) (n1≠n2) (n1≠n3) (n2≠n3) (env.kindOf n1=some .local) (env.kindOf n2=some .local) (env.kindOf n3=some .local)
theorem Gg{ts:List Expr}{env:Env}{f:Expr->Option Str}{c:Bool}(hf:∀ e n,f e=some n->∃ q,e=.Name n q∧env.kindOf n=some .local)(h3:((ts.filterMap f).length != ts.length||(ts.filterMap f).eraseDups.length != (ts.filterMap f).length)=false){sc:Scope}(hc:∀ n q,lK sc (.Name n q)=true->env.kindOf n=some .local->False)(h:(ts.any notName||ts.any (lK sc)||(!c&&(decide (ts.length=2)||decide (ts.length=3))))=true):
  c=false∧wW env ts (ts.filterMap f):=by
 obtain⟨l1,l2⟩:=afi.mp h3
 have full:=F4 (bne_eq_false_iff_eq.mp l1)
 have l2:=bne_eq_false_iff_eq.mp l2
 rcases abq.mp h with h |h
 ·rcases abq.mp h with h |h
  ·obtain⟨t,ht,hn⟩:=aiB.mp h
   obtain⟨b,hb⟩:=full t ht
   obtain⟨q,rfl,_⟩:=hf t b hb
   exact aaa hn
  ·obtain⟨t,ht,hn⟩:=aiB.mp h
   obtain⟨b,hb⟩:=full t ht
   obtain⟨q,rfl,k⟩:=hf t b hb
   exact(hc b q hn k).elim
 obtain⟨h4,h5⟩:=aab.mp h
 refine⟨gN h4,?_⟩
 rcases abq.mp h5 with h5 |h5
 ·obtain⟨a,b,rfl⟩:=rA (of_decide_eq_true h5)
  obtain⟨n1,e1⟩:=full a (.head _)
  obtain⟨n2,e2⟩:=full b (.tail _ (.head _))
  obtain⟨q1,rfl,k1⟩:=hf a n1 e1
  obtain⟨q2,rfl,k2⟩:=hf b n2 e2
  have en:[agr n1 q1,.Name n2 q2].filterMap f=[n1,n2]:=by rw[ach e1,ach e2];rfl
  rw[en]at l2 ⊢
  exact .inl ⟨n1,q1,n2,q2,rfl,rfl,λe=>me l2 (e▸.head _),k1,k2⟩
 ·obtain⟨a,b,d,rfl⟩:=wU (of_decide_eq_true h5)
  obtain⟨n1,e1⟩:=full a (.head _)
  obtain⟨n2,e2⟩:=full b (.tail _ (.head _))
  obtain⟨n3,e3⟩:=full d (.tail _ (.tail _ (.head _)))
  obtain⟨q1,rfl,k1⟩:=hf a n1 e1
  obtain⟨q2,rfl,k2⟩:=hf b n2 e2
  obtain⟨q3,rfl,k3⟩:=hf d n3 e3
  have en:[agr n1 q1,.Name n2 q2,.Name n3 q3].filterMap f=[n1,n2,n3]:=by rw[ach e1,ach e2,ach e3];rfl
  rw[en]at l2 ⊢
  exact .inr ⟨n1,q1,n2,q2,n3,q3,rfl,rfl,λe=>me l2 (e▸.head _),λe=>me l2 (e▸.tail _ (.head _)),λe=>me (F7 l2) (e▸.head _),k1,k2,k3⟩
theorem Gh{sc:Scope}(t v:Expr)(env:Env)(hc:∀ n q,lK sc (.Name n q)=true->env.kindOf n=some .local->False)(h:uu sc t v=true)(hl:(t.ctorIdx==24)=false):
  acM [t] v env=pure none∨d9 λts k p l=>aO (t=.Tuple ts k p) (acM [t] v env=pure (some l)) (wW env ts l):=by
 rcases Gb t v env hl with e | ⟨ts,k,p,rfl⟩
 ·exact .inl e
 rcases Ga ts k p v env with e | ⟨vs,k',p',rfl⟩
 ·exact .inl e
 obtain⟨f,c1,c2,c4,U,hf,e⟩:=F9 ts vs k p k' p' env
 rw[e]
 rcases F5 (c1:=c1) (c2:=c2) (c3:=((ts.filterMap f).length != ts.length||(ts.filterMap f).eraseDups.length != (ts.filterMap f).length)) (c4:=c4) (c5:=vs.all (afK 8)) (a:=pure none) (b:=pure (some (ts.filterMap f))) (U:=U)with z | ⟨-,h3,z⟩
 ·exact .inl z
 obtain⟨h4,w⟩:=Gg (c:=vs.all (afK 8)) hf h3 hc h
 rw[z,h4]
 exact .inr ⟨ts,k,p,_,rfl,rfl,w⟩
section
variable {m:Am} {g:Gs} {st:St} {α:Type} {P:a9} {K:Frag} {mg mb:Str->Option Value} {ev:Expr->M V}
theorem Gi(t:Expr):(t.ctorIdx==24||t.ctorIdx==22)=true->gi t=.other:=
 aaO (motive_1:=λt=>(t.ctorIdx==24||t.ctorIdx==22)=true->gi t=.other) t (λ_ _ _ h=>aaa h) (λ_ _ _ h=>aaa h) (λ_ _ _ _ h=>aaa h) (λ_ _ _ h=>aaa h) (λ_ _ _ _ h=>aaa h) (λ_ _ _ _ h=>aaa h) (λ_ _ _ h=>aaa h) (λ_ _ _ h=>aaa h) (λ_ _ _ _ h=>aaa h) (λ_ _ _ _ h=>aaa h) (λ_ _ _ _ _ h=>aaa h) (λ_ _ _ _ h=>aaa h) (λ_ _ h=>aaa h) (λ_ _ h=>aaa h) (λ_ _ h=>aaa h) (λ_ _ _ _ h=>aaa h) (λ_ _ _ _ h=>aaa h) (λ_ _ _ _ h=>aaa h) (λ_ _ h=>aaa h) (λ_ _ _ h=>aaa h) (λ_ _ _ h=>aaa h) (λ_ _ _ h=>aaa h) (λ_ _ _=>rfl) (λ_ _ h=>aaa h) (λ_ _ _=>rfl) (λ_ _ _ h=>aaa h) (λ_ _ _ _ h=>aaa h)
theorem Gj{env:Env}(t:Expr):(t.ctorIdx==22)=false->(adT [t] env).map (·.2)=[acL t env]:=
 aaO (motive_1:=λt=>(t.ctorIdx==22)=false->(adT [t] env).map (·.2)=[acL t env]) t (λ_ _ _ _=>rfl) (λ_ _ _ _=>rfl) (λ_ _ _ _ _=>rfl) (λ_ _ _ _=>rfl) (λ_ _ _ _ _=>rfl) (λ_ _ _ _ _=>rfl) (λ_ _ _ _=>rfl) (λ_ _ _ _=>rfl) (λ_ _ _ _ _=>rfl) (λ_ _ _ _ _=>rfl) (λ_ _ _ _ _ _=>rfl) (λ_ _ _ _ _=>rfl) (λ_ _ _=>rfl) (λ_ _ _=>rfl) (λ_ _ _=>rfl) (λ_ _ _ _ _=>rfl) (λ_ _ _ _ _=>rfl) (λ_ _ _ _ _=>rfl) (λ_ _ _=>rfl) (λ_ _ _ _=>rfl) (λ_ _ _ _=>rfl) (λ_ _ _ _=>rfl) (λ_ _ h=>aaa h) (λ_ _ _=>rfl) (λ_ _ _=>rfl) (λ_ _ _ _=>rfl) (λ_ _ _ _ _=>rfl)
theorem wX(O:bE m){x:Str}(h:m.env.kindOf x=some .local):(∃ i,m.sc.names[i]? =some (x,.local)∧∀ v,store m.sc x v=aD i v)∨∀ v,store m.sc x v=no:=by
 have nr:=nC m.sc x
 unfold store
 generalize de m.sc x=r at nr
 cases r with
 |loc i=>exact .inl ⟨i,nr.1,λ_=>rfl⟩
 |cx i=>
  obtain⟨_,_,_,b⟩:=nr
  rcases O.env.cx x b with w |w<;>exact abc (aae.inj (h.symm.trans w))
 |_=>exact .inr λ_=>rfl
theorem n8(O:bE m){n1 n2:Str}(h1:m.env.kindOf n1=some .local)(h2:m.env.kindOf n2=some .local)(ne:n1≠n2)(v1 v2:V)(k:M Unit):(store m.sc n1 v1>>=λ_=>store m.sc n2 v2>>=λ_=>k) st=(store m.sc n2 v2>>=λ_=>store m.sc n1 v1>>=λ_=>k) st:=by
 rcases wX O h1 with ⟨i,a1,e1⟩ |e1<;>rcases wX O h2 with ⟨j,a2,e2⟩ |e2<;>rw[e1,e2]
 ·have hij:i≠j:=λe=>ne (congrArg aei (aae.inj (a1.symm.trans (e▸a2))))
  exact congrArg (λl=>k {st with lo:=l}) (List.set_comm _ _ hij)
 all_goals rfl
theorem Gk(G:aB m P K mg mb){n1 n2:Str}{q1 q2:Pos}{x:V}{rx:Value}(h1:m.env.kindOf n1=some .local)(h2:m.env.kindOf n2=some .local)(ne:n1≠n2)(vx:m.VR g x rx):
  Np m g st (afd rx 2 none>>=λitems=>adk [acs m.env n2,acs m.env n1] items.reverse>>=λ_=>pure acY) ((jv P m.lv ev m.sc (asg P m.lv ev m.sc 2) x (.tup [.Name n1 q1,.Name n2 q2])>>=λ_=>pure Fl.next) st) (aT m):=by
 unfold jv
 rw[M.bind_assoc]
 refine Np.aL λhg=>?_
 rw[M.bind_assoc]
 refine Np.bx λa ha=>?_
 subst ha
 rw[M.bind_assoc]
 refine Np.iI λxs hxs=>?_
 rw[M.bind_assoc]
 refine Np.aL λhlen=>?_
 obtain⟨y,z,rfl,hp⟩:=vx
 obtain⟨x1,x2,rfl⟩:=rA (of_decide_eq_true hlen)
 show Np m g st _ ((((store m.sc n1 x1>>=λ_=>store m.sc n2 x2>>=λ_=>(aak ():M Unit))>>=λ_=>(aak Fl.next:M Fl))) st) _
 rw[show(((store m.sc n1 x1>>=λ_=>store m.sc n2 x2>>=λ_=>(aak ():M Unit))>>=λ_=>(aak Fl.next:M Fl))) st=((store m.sc n2 x2>>=λ_=>store m.sc n1 x1>>=λ_=>(aak ():M Unit))>>=λ_=>(aak Fl.next:M Fl)) st from congrArg (λr=>M.bind (λ_=>r) (λ_=>(aak Fl.next:M Fl)) st) (n8 G.O h1 h2 ne x1 x2 _),M.bind_assoc]
 intro s Q E R Pp
 obtain⟨rs,ht,hr⟩:=R.inv.tuple hp hxs
 obtain⟨r1,_,rfl,v1,hr⟩:=hr
 obtain⟨r2,_,rfl,v2,hr⟩:=hr
 have hr:_=[]:=hr
 subst hr
 show ao _ _ (afd (.ref y) ([r1,r2]:Vs).toArray.size none>>=_) _ _ _
 refine aC (afb (G.O.df (aab.mp hg).1) ht λh' hs'=>?_)
 have R':Rel m g st h':=R.keeps λb o e=>hs' b o (λz=>ai ((dP s.heap).symm.trans (z▸e))) e
 have hN:Np m g st (adk [acs m.env n2,acs m.env n1] [r2,r1]>>=λ_=>pure acY) ((store m.sc n2 x2>>=λ_=>(store m.sc n1 x1>>=λ_=>(aak ():M Unit))>>=λ_=>(aak Fl.next:M Fl)) st) (aT m):=by
  show Np m g st ((abb [r1] (acs m.env n2 r2)>>=λ_=>abb [] (acs m.env n1 r1)>>=λ_=>pure ())>>=λ_=>pure acY) _ _
  refine dA (Np.bind (Np.holding (kG G.O v2)) λ_ st₁ g₁ _ _ x₁ _=>?_)
  rw[M.bind_assoc]
  exact dA (Np.bind (Np.holding (kG G.O (v1.mono x₁))) λ_ st2 g₂ _ _ x₂ _=>fJ (Np.pure .next))
 exact hN {s with heap:=h'} Q E R' Pp
theorem Gl(O:bE m){n1 n2 n3:Str}(h1:m.env.kindOf n1=some .local)(h2:m.env.kindOf n2=some .local)(h3:m.env.kindOf n3=some .local)(a:n1≠n2)(b:n1≠n3)(c:n2≠n3)(v1 v2 v3:V)(k:M Unit):
  (store m.sc n1 v1>>=λ_=>store m.sc n2 v2>>=λ_=>store m.sc n3 v3>>=λ_=>k) st=(store m.sc n3 v3>>=λ_=>store m.sc n2 v2>>=λ_=>store m.sc n1 v1>>=λ_=>k) st:=by
 have e1:(store m.sc n2 v2>>=λ_=>store m.sc n3 v3>>=λ_=>k)=(store m.sc n3 v3>>=λ_=>store m.sc n2 v2>>=λ_=>k):=funext λst=>n8 O h2 h3 c v2 v3 k
 have e2:(store m.sc n1 v1>>=λ_=>store m.sc n2 v2>>=λ_=>k)=(store m.sc n2 v2>>=λ_=>store m.sc n1 v1>>=λ_=>k):=funext λst=>n8 O h1 h2 a v1 v2 k
 rw[e1,n8 O h1 h3 b v1 v3,e2]
theorem Gm(G:aB m P K mg mb){n1 n2 n3:Str}{q1 q2 q3:Pos}{x:V}{rx:Value}(h1:m.env.kindOf n1=some .local)(h2:m.env.kindOf n2=some .local)(h3:m.env.kindOf n3=some .local)(a:n1≠n2)(b:n1≠n3)(c:n2≠n3)(vx:m.VR g x rx):
  Np m g st (afd rx 3 none>>=λitems=>adk [acs m.env n3,acs m.env n2,acs m.env n1] items.reverse>>=λ_=>pure acY) ((jv P m.lv ev m.sc (asg P m.lv ev m.sc 2) x (.tup [.Name n1 q1,.Name n2 q2,.Name n3 q3])>>=λ_=>pure Fl.next) st) (aT m):=by
 unfold jv
 rw[M.bind_assoc]
 refine Np.aL λhg=>?_
 rw[M.bind_assoc]
 refine Np.bx λa ha=>?_
 subst ha
 rw[M.bind_assoc]
 refine Np.iI λxs hxs=>?_
 rw[M.bind_assoc]
 refine Np.aL λhlen=>?_
 obtain⟨y,z,rfl,hp⟩:=vx
 obtain⟨x1,x2,x3,rfl⟩:=wU (of_decide_eq_true hlen)
 show Np m g st _ ((((store m.sc n1 x1>>=λ_=>store m.sc n2 x2>>=λ_=>store m.sc n3 x3>>=λ_=>(aak ():M Unit))>>=λ_=>(aak Fl.next:M Fl))) st) _
 rw[show(((store m.sc n1 x1>>=λ_=>store m.sc n2 x2>>=λ_=>store m.sc n3 x3>>=λ_=>(aak ():M Unit))>>=λ_=>(aak Fl.next:M Fl))) st=((store m.sc n3 x3>>=λ_=>store m.sc n2 x2>>=λ_=>store m.sc n1 x1>>=λ_=>(aak ():M Unit))>>=λ_=>(aak Fl.next:M Fl)) st from congrArg (λr=>M.bind (λ_=>r) (λ_=>(aak Fl.next:M Fl)) st) (Gl G.O h1 h2 h3 ‹_› b c x1 x2 x3 _),M.bind_assoc]
 intro s Q E R Pp
 obtain⟨rs,ht,hr⟩:=R.inv.tuple hp hxs
 obtain⟨r1,_,rfl,v1,hr⟩:=hr
 obtain⟨r2,_,rfl,v2,hr⟩:=hr
 obtain⟨r3,_,rfl,v3,hr⟩:=hr
 have hr:_=[]:=hr
 subst hr
 show ao _ _ (afd (.ref y) ([r1,r2,r3]:Vs).toArray.size none>>=_) _ _ _
 refine aC (afb (G.O.df (aab.mp hg).1) ht λh' hs'=>?_)
 have R':Rel m g st h':=R.keeps λb o e=>hs' b o (λz=>ai ((dP s.heap).symm.trans (z▸e))) e
 have hN:Np m g st (adk [acs m.env n3,acs m.env n2,acs m.env n1] [r3,r2,r1]>>=λ_=>pure acY) ((store m.sc n3 x3>>=λ_=>(store m.sc n2 x2>>=λ_=>store m.sc n1 x1>>=λ_=>(aak ():M Unit))>>=λ_=>(aak Fl.next:M Fl)) st) (aT m):=by
  show Np m g st ((abb [r2,r1] (acs m.env n3 r3)>>=λ_=>abb [r1] (acs m.env n2 r2)>>=λ_=>abb [] (acs m.env n1 r1)>>=λ_=>pure ())>>=λ_=>pure acY) _ _
  refine dA (Np.bind (Np.holding (kG G.O v3)) λ_ st₁ g₁ _ _ x₁ _=>?_)
  rw[M.bind_assoc]
  refine dA (Np.bind (Np.holding (kG G.O (v2.mono x₁))) λ_ st2 g₂ _ _ x₂ _=>?_)
  rw[M.bind_assoc]
  exact dA (Np.bind (Np.holding (kG G.O ((v1.mono x₁).mono x₂))) λ_ st3 g₃ _ _ x₃ _=>fJ (Np.pure .next))
 exact hN {s with heap:=h'} Q E R' Pp
theorem Gn(v:Expr):jw v=false->pP v=true->d9 λelt gens scope p=>v=.ListComp elt gens scope p:=
 aaO (motive_1:=λv=>jw v=false->pP v=true->d9 λelt gens scope p=>v=.ListComp elt gens scope p) v (λx0 x1 x2=>λh _=>aaa h) (λx0 x1 x2=>λh _=>aaa h) (λx0 x1 x2 x3=>λh _=>aaa h) (λx0 x1 x2=>λh _=>aaa h) (λx0 x1 x2 x3=>λh _=>aaa h) (λx0 x1 x2 x3=>λh _=>aaa h) (λx0 x1 x2=>λh _=>aaa h) (λx0 x1 x2=>λh _=>aaa h) (λa b c d=>λ_ _=>⟨a,b,c,d,rfl⟩) (λx0 x1 x2 x3=>λ_ h=>aaa h) (λx0 x1 x2 x3 x4=>λ_ h=>aaa h) (λx0 x1 x2 x3=>λh _=>aaa h) (λx0 x1=>λh _=>aaa h) (λx0 x1=>λh _=>aaa h) (λx0 x1=>λh _=>aaa h) (λx0 x1 x2 x3=>λh _=>aaa h) (λx0 x1 x2 x3=>λh _=>aaa h) (λx0 x1 x2 x3=>λh _=>aaa h) (λx0 x1=>λh _=>aaa h) (λx0 x1 x2=>λh _=>aaa h) (λx0 x1 x2=>λh _=>aaa h) (λx0 x1 x2=>λh _=>aaa h) (λx0 x1=>λh _=>aaa h) (λx0 x1=>λh _=>aaa h) (λx0 x1=>λh _=>aaa h) (λx0 x1 x2=>λh _=>aaa h) (λx0 x1 x2 x3=>λh _=>aaa h)
theorem Gp{line:Nat}{env:Env}{elt gens scope p}(x:Str)(q:Pos):aeP (.ListComp elt gens scope p) (some (.Name x q)) line env=pure false∨bT λn q'=>aO (agr x q=.Name n q') (aeP (.ListComp elt gens scope p) (some (.Name x q)) line env=pure true) (env.kindOf n=some .local):=by
 show(pure (env.blockKind==.function&&env.kindOf x==some .local&&q.line==p.line&&!(scope.names.any λ(n,k)=>n==x&&(k==.local||k==.cell))):Sem Bool)=_∨bT λn q'=>aO _ ((pure (env.blockKind==.function&&env.kindOf x==some .local&&q.line==p.line&&!(scope.names.any λ(n,k)=>n==x&&(k==.local||k==.cell))):Sem Bool)=_) _
 cases h:env.blockKind==.function&&env.kindOf x==some .local&&q.line==p.line&&!(scope.names.any λ(n,k)=>n==x&&(k==.local||k==.cell))with
 |false=>exact .inl rfl
 |true=>
  obtain⟨h,_⟩:=aab.mp h
  obtain⟨h,_⟩:=aab.mp h
  exact .inr ⟨x,q,rfl,rfl,eq_of_beq (aab.mp h).2⟩
theorem Gq{line:Nat}{env:Env}{elt gens scope p}(t:Expr):aeP (.ListComp elt gens scope p) (some t) line env=pure false∨bT λn q=>aO (t=.Name n q) (aeP (.ListComp elt gens scope p) (some t) line env=pure true) (env.kindOf n=some .local):=
 aaO (motive_1:=λt=>aeP (.ListComp elt gens scope p) (some t) line env=pure false∨bT λn q=>aO (t=.Name n q) (aeP (.ListComp elt gens scope p) (some t) line env=pure true) (env.kindOf n=some .local)) t (λx0 x1 x2=>.inl rfl) (λx0 x1 x2=>.inl rfl) (λx0 x1 x2 x3=>.inl rfl) (λx0 x1 x2=>.inl rfl) (λx0 x1 x2 x3=>.inl rfl) (λx0 x1 x2 x3=>.inl rfl) (λx0 x1 x2=>.inl rfl) (λx0 x1 x2=>.inl rfl) (λx0 x1 x2 x3=>.inl rfl) (λx0 x1 x2 x3=>.inl rfl) (λx0 x1 x2 x3 x4=>.inl rfl) (λx0 x1 x2 x3=>.inl rfl) (λx0 x1=>.inl rfl) (λx0 x1=>.inl rfl) (λx0 x1=>.inl rfl) (λx0 x1 x2 x3=>.inl rfl) (λx0 x1 x2 x3=>.inl rfl) (λx0 x1 x2 x3=>.inl rfl) (λx0 x1=>.inl rfl) (λx0 x1 x2=>.inl rfl) (λx0 x1 x2=>.inl rfl) (λx0 x1 x2=>.inl rfl) (λx0 x1=>.inl rfl) (λx q=>Gp x q) (λx0 x1=>.inl rfl) (λx0 x1 x2=>.inl rfl) (λx0 x1 x2 x3=>.inl rfl)
theorem Gr(G:aB m P K mg mb)(H:bf m ev)(ts:List Expr)(v:Expr)(p:Pos):Np m g st (exec (.Assign ts v p) m.env) (uv P m.lv ev m.sc ts v st) (aT m):=by
 refine Np.aG λt ht=>Np.aL λhg=>?_
 rw[px ht,ahe]
 obtain⟨h1,h2⟩:=aab.mp hg
 refine Np.standAt ?_
 have plain:afe [t] v p.line m.env=pure false->Np m g st (afe [t] v p.line m.env>>=λb=>if b=true then (do afX v m.env λv=>assignAll v ((adT [t] m.env).map (·.2));pure .next)else (do
   let x<-eval v m.env
   assignStores m.env x (<-acM [t] v m.env) ((adT [t] m.env).map (·.2)))) ((ev v>>=λx=>asg P m.lv ev m.sc 3 t x>>=λ_=>pure .next:M Fl) st) (aT m):=λe=>by
  rw[e]
  refine fJ ?_
  rw[if_neg abe]
  refine Np.bind (H.snd v g st) λx st₁ g₁ rx e1 x₁ vx=>?_
  cases ho:t.ctorIdx==24||t.ctorIdx==22 with
  |true=>
   show Np m g₁ st₁ _ ((jv P m.lv ev m.sc (asg P m.lv ev m.sc 2) x (gi t)>>=λ_=>pure Fl.next) st₁) _
   rw[Gi t ho];exact Np.no
  |false=>
   obtain⟨o1,o2⟩:=afi.mp ho
   rcases Gh t v m.env (λn q=>Ge G.O.env) h2 o1 with hs | ⟨ts,k,p',l,rfl,hs,w⟩
   ·rw[hs,Gj t o2]
    exact fJ (Np.bind (l0 G H 3 t x rx g₁ st₁ vx) λ_ st2 g₂ _ _ _ _=>Np.pure .next)
   ·rw[hs]
    refine fJ ?_
    rcases w with ⟨n1,q1,n2,q2,rfl,rfl,ne,k1,k2⟩ | ⟨n1,q1,n2,q2,n3,q3,rfl,rfl,a,b,c,k1,k2,k3⟩
    ·show Np m g₁ st₁ (rule "assign.swapped-stores">>=λ_=>afd rx 2 none>>=λitems=>adk [acs m.env n2,acs m.env n1] items.reverse>>=λ_=>pure acY) _ _
     exact Np.step (c:=()) (λs Q E h=>acK h) (Gk G k1 k2 ne vx)
    ·show Np m g₁ st₁ (rule "assign.swapped-stores">>=λ_=>afd rx 3 none>>=λitems=>adk [acs m.env n3,acs m.env n2,acs m.env n1] items.reverse>>=λ_=>pure acY) _ _
     exact Np.step (c:=()) (λs Q E h=>acK h) (Gm G k1 k2 k3 a b c vx)
 cases hn:jw v with
 |true=>exact plain (n7 (some t) v hn)
 |false=>
  obtain⟨elt,gens,scope,cp,rfl⟩:=Gn v hn h1
  rcases Gq (line:=p.line) (env:=m.env) (elt:=elt) (gens:=gens) (scope:=scope) (p:=cp) t with e | ⟨n,q,rfl,e,hk⟩
  ·exact plain e
  ·rw[show afe [.Name n q] (.ListComp elt gens scope cp) p.line m.env=pure true from e]
   refine fJ ?_
   rw[if_pos rfl]
   show Np m g st (afX (.ListComp elt gens scope cp) m.env (acL (.Name n q) m.env)>>=λ_=>pure acY) ((ev (.ListComp elt gens scope cp)>>=λx=>store m.sc n x>>=λ_=>pure Fl.next) st) _
   rw[<-M.bind_assoc]
   exact Np.bind (H.use elt gens scope cp n q hk g st) λ_ st2 g₂ _ _ _ _=>Np.pure .next
end
end
section
open _root_.PySem.SeqAt
theorem Gu:Slot "reversed" "__init__" "object.__init__":=
 .of (owner:="object") (n:="__init__") (by rw[aaQ,aaA];kernel_rfl) (by decide+kernel) (by decide+kernel) (by decide+kernel)
  (by first |exact .inl (by decide+kernel) |exact .inr (by decide+kernel)) (by rw[abM];kernel_rfl)
theorem Gv:ajH "reversed" "reversed.__new__" "object.__init__":=⟨by decide+kernel,F.create_reversed,⟨_,_,F.mro_reversed⟩,F.made_reversed,F.plain_reversed_new,F.sub_reversed_self,Gu⟩
theorem Gw:ack (.type "bytes") "__reversed__"=pure none:=by rw[aaQ,aaA];kernel_rfl
theorem Gx:aha (.type "bytes") (.type "dict")=pure false:=by rw[abM];kernel_rfl
theorem mf:Slot "reversed" "__next__" "reversed.__next__":=
 .of (owner:="reversed") (n:="__next__") (by rw[aaQ,aaA];kernel_rfl) (by decide+kernel) (by decide+kernel) (by decide+kernel)
  (by first |exact .inl (by decide+kernel) |exact .inr (by decide+kernel)) (by rw[abM];kernel_rfl)
theorem wY:adU table "reversed.__next__"=some aaD.«reversed.__next__»:=aef (by kernel_rfl)
theorem wZ(a:Value):aeA "reversed.__next__" ⟨[a],[]⟩:=by unfold aeA;kernel_rfl
theorem w4:Slot "reversed" "__iter__" "reversed.__iter__":=
 .of (owner:="reversed") (n:="__iter__") (by rw[aaQ,aaA];kernel_rfl) (by decide+kernel) (by decide+kernel) (by decide+kernel)
  (by first |exact .inl (by decide+kernel) |exact .inr (by decide+kernel)) (by rw[abM];kernel_rfl)
theorem Gy(a:Value):aeA "reversed.__iter__" ⟨[a],[]⟩:=by unfold aeA;kernel_rfl
theorem Gz:adU table "reversed.__iter__"=some aaD.«dict_keyiterator.__iter__»:=entryFor_alias (id':="dict_keyiterator.__iter__") (by kernel_rfl) (by first |rfl |decide+kernel | (unfold aix;simp+decide [ahy])) (by decide+kernel) (by kernel_rfl)
noncomputable abbrev ig (b:By) (t:Tok) (i:Int):Obj:={cls:=.type "reversed",data:=.fields #[.bytes b.toArray t,adF i]}
section
variable {prog:acI} {w:World} {A:aaY} {E:Value->Sh} {s:aaC}
theorem GA(prog:acI)(w:World){b:By}{t:Tok}(hz:b.length<=1048576):MeetsIn prog w (aaD.«reversed.__new__» ⟨[.type "reversed",.bytes b.toArray t],[]⟩) λA R s=>∀ k,R (.ok (.ret (.ref s.heap.objs.size))) {s with heap:=s.heap.push (ig b t ((b.length:Int) -1)),toks:=k}:=
 .of_wp λA R s h=>by
  have hT:=acv s b.toArray t
  unfold aaD.«reversed.__new__»
  refine wpAny_bind (aaB (newClass_reversed _) ?_)
  try dsimp only
  refine wpAny_bind (aaB (a:=()) (by first |rfl |kernel_rfl) ?_)
  refine wpAny_bind (aaB (a:=()) (by first |rfl |kernel_rfl) ?_)
  try dsimp only
  refine wpAny_bind (aaN hT Gw ?_)
  try dsimp only
  refine wpAny_bind (wpAny_bind (acJ hT Gx ?_))
  refine abn rfl ?_
  refine wpAny_bind (aaN hT adM.lookup ?_)
  try dsimp only
  refine aeJ (by decide+kernel) (aai ?_)
  refine abn rfl ?_
  have e:b.toArray.size=b.length:=aaE
  refine wpAny_bind (len_bytes (by rw[e];exact aah hz (by decide)) ?_)
  rw[e]
  refine wpAny_bind (aai ?_)
  refine wpAny_bind (m:=newObj (.type "reversed") (.fields #[.bytes b.toArray t,adF ((b.length:Int) -1)])) (acU ?_)
  exact aai ⟨_,rfl,h _⟩
theorem GB{b:By}{t:Tok}{Q:Value->Sh}(hz:b.length<=1048576)(h:∀ k,Q (.ref s.heap.objs.size) {s with heap:=s.heap.push (ig b t ((b.length:Int) -1)),toks:=k}):
  wpAny (model prog w) A (aal (.type "reversed") [.bytes b.toArray t]) Q E s:=
 callType_newIn Gv (by decide) (F.typeCall_reversed_1 _) (F.newCall_reversed_1 _) (λobj=>aiq obj _) F.entry_reversed_new (GA prog w hz) λk=>⟨⟨_,aaX _ rfl,rfl⟩,h k⟩
theorem GC{it:Addr}{b:By}{t:Tok}{k:Nat}{Q:Option Value->Sh}(hit:s.heap.get? it=some (ig b t (k:Int)))(hk:k<b.length)(hz:b.length<=1048576)
  (hQ:∀ h' u tk,h'.get? it=some (ig b t ((k:Int) -1))->acD it s.heap h'->Q (some (.int (b.getD k 0).toNat u)) {s with heap:=h',toks:=tk}):wpAny (model prog w) A (ahM (.ref it)) Q E s:=by
 have hT:s.TypeIs (.ref it) "reversed":=⟨_,hit,rfl⟩
 unfold ahM
 refine wpAny_bind (afa (adG (name:=ada "__next__") hT mf
  (afj mf hT wY ?_ (wZ _))))
 unfold aaD.«reversed.__next__»
 refine wpAny_bind (aaB (a:=(adW it,[])) rfl ?_)
 try dsimp only
 refine wpAny_bind (acz hit rfl (x:=.bytes b.toArray t) rfl ?_)
 refine wpAny_bind (acz hit rfl (x:=adF (k:Int)) rfl ?_)
 show wpAny _ _ (if (k:Int)<0 then _ else _) _ _ s
 rw[if_neg (by lia)]
 refine wpAny_bind (aaN (acv s b.toArray t) adM.lookup ?_)
 refine abn rfl ?_
 refine wpAny_bind (ajh (wpAny_bind (afa (getItem_bytes (by lia) (by lia) (by lia) ?_))))
 try dsimp only
 refine wpAny_bind (acz hit rfl (x:=adF (k:Int)) rfl ?_)
 refine wpAny_bind (afM hit rfl (by simp) ?_)
 rw[abk]
 refine aai ⟨_,rfl,aai (hQ _ _ _ ?_ (acH ..))⟩
 exact abO _ hit rfl
theorem GD{it:Addr}{b:By}{t:Tok}{Q:Option Value->Sh}(hh:A.handled=none)(hit:s.heap.get? it=some (ig b t (-1)))
  (hQ:∀ h',ake it s.heap h'->Q none {s with heap:=h'}):wpAny (model prog w) A (ahM (.ref it)) Q E s:=by
 have hT:s.TypeIs (.ref it) "reversed":=⟨_,hit,rfl⟩
 unfold ahM
 refine wpAny_bind (afa (adG (name:=ada "__next__") hT mf
  (afj mf hT wY ?_ (wZ _))))
 unfold aaD.«reversed.__next__»
 refine wpAny_bind (aaB (a:=(adW it,[])) rfl ?_)
 try dsimp only
 refine wpAny_bind (acz hit rfl (x:=.bytes b.toArray t) rfl ?_)
 refine wpAny_bind (acz hit rfl (x:=adF (-1)) rfl ?_)
 show wpAny _ _ (if (-1:Int)<0 then _ else _) _ _ s
 rw[if_pos (by decide)]
 refine wpAny_bind (acK ?_)
 show wpAny _ _ ((setField (.ref it) 1 (adF (-1))>>=λ_=>setField (.ref it) 0 .none)>>=_) _ _ _
 refine wpAny_bind (wpAny_bind (afM hit rfl (by simp) ?_))
 have h1:=abO (ajC λvs=>vs.setIfInBounds 1 (adF (-1))) hit rfl
 refine afM h1 rfl (by simp) ?_
 refine wpAny_bind ?_
 show wpAny _ _ (newExc (.type "StopIteration") []>>=_) _ _ _
 refine wpAny_bind ?_
 simp only[newExc,newTuple]
 refine wpAny_bind (acU ?_ (by size_fits))
 refine wpAny_bind (m:=firstArgMember _ _) (aaB (a:=abo) (by first |rfl | (simp only[firstArgMember];rfl)) ?_)
 refine acU ?_ (by size_fits)
 simp only[raiseNew]
 refine wpAny_bind (wpAny_handled ?_)
 rw[show A.in1.handled=none from hh]
 refine wpAny_bind (aai (wpAny_throw ?_))
 refine wpAny_bind (acJ (T:="StopIteration") (b:=true) ⟨_,aaX _ rfl,rfl⟩ isSubtype_stop ?_)
 exact aai (hQ _ (((((ake.refl _ _).trans (acH ..).extBut).trans (acH ..).extBut).push _).push _))
theorem GF{it:Addr}{b:By}{t:Tok}{i:Int}{Q:Value->Sh}(hit:s.heap.get? it=some (ig b t i))(h:Q (.ref it) s):wpAny (model prog w) A (ago (.ref it)) Q E s:=by
 have hT:s.TypeIs (.ref it) "reversed":=⟨_,hit,rfl⟩
 refine wpAny_pyIter_slot hT w4 (afj w4 hT Gz ?_ (Gy _))
 show wpAny _ _ (ret (.ref it)) _ _ s
 exact aai ⟨_,rfl,"reversed",_,hT,mf.lookup,h⟩
end
end
section
open _root_.PySem.SeqAt
section
variable {m:Am} {g:Gs} {st:St} {α:Type} {P:a9} {K:Frag} {mg mb:Str->Option Value} {ev:Expr->M V}
theorem GG(G:aB m P K mg mb)(H:bf m ev)(o:Expr)(a:Str)(tp:Pos)(op:abZ)(v:Expr)(p:Pos):Np m g st (exec (.AugAssign (.Attribute o a tp) op v p) m.env) ((do
   let ov<-ev o
   let old<-lC P ov a
   let b<-ev v
   nh P ov a (<-cE op old b)
   return .next:M Fl) st) (aT m):=by
 rw[arm_exec_AugAssign_2]
 refine Np.standAt (Np.bind (H.snd o g st) λov st₁ g₁ ro e1 x₁ vo=>?_)
 refine nZ (Np.standAt (dA (Np.bind (vg G.PK vo).np λold st2 g₂ rold e2 x₂ vold=>?_)))
 refine dA (Np.bind (Np.holding (H.snd v g₂ st2)) λb st3 g₃ rb e3 x₃ vb=>dA (Np.standAt ?_))
 refine Np.bind (lS (β:=Unit) (uW (vold.mono x₃) vb).np) λc st4 g₄ rc e4 x₄ vc=>Np.standAt ?_
 refine Np.bind (Np.holding (vh G.PK (vo.mono (x₂.trans (x₃.trans x₄))) vc).np) λ_ st5 g5 _ e5 x₅ _=>?_
 exact Np.release (Np.pure .next)
theorem GH{ro ri rc:Value}(i:Expr):isSlice i=false->augStore i ro ri rc=(ace [rc,ro,ri] (aid ro ri rc)>>=λ_=>release [rc,ro,ri] []>>=λ_=>pure acY):=
 aaO (motive_1:=λi=>isSlice i=false->augStore i ro ri rc=(ace [rc,ro,ri] (aid ro ri rc)>>=λ_=>release [rc,ro,ri] []>>=λ_=>pure acY)) i (λ_ _ _ _=>rfl) (λ_ _ _ _=>rfl) (λ_ _ _ _ _=>rfl) (λ_ _ _ _=>rfl) (λ_ _ _ _ _=>rfl) (λ_ _ _ _ _=>rfl) (λ_ _ _ _=>rfl) (λ_ _ _ _=>rfl) (λ_ _ _ _ _=>rfl) (λ_ _ _ _ _=>rfl) (λ_ _ _ _ _ _=>rfl) (λ_ _ _ _ _=>rfl) (λ_ _ _=>rfl) (λ_ _ _=>rfl) (λ_ _ _=>rfl) (λ_ _ _ _ _=>rfl) (λ_ _ _ _ _=>rfl) (λ_ _ _ _ _=>rfl) (λ_ _ _=>rfl) (λ_ _ _ _=>rfl) (λ_ _ _ _=>rfl) (λ_ _ _ _=>rfl) (λ_ _ _=>rfl) (λ_ _ _=>rfl) (λ_ _ _=>rfl) (λ_ _ _ _=>rfl) (λ_ _ _ _ h=>aaa h)
theorem GI(G:aB m P K mg mb)(H:bf m ev)(o i:Expr)(hi:isSlice i=false)(sp:Pos)(op:abZ)(v:Expr)(p:Pos):Np m g st (exec (.AugAssign (.Subscript o i sp) op v p) m.env) ((do
    let ov<-ev o
    let iv<-ev i
    let old<-cX ov iv
    let b<-ev v
    dN ov iv (<-cE op old b)
    return .next:M Fl) st) (aT m):=by
 rw[arm_exec_AugAssign_3]
 refine Np.standAt (Np.bind (H.snd o g st) λov st₁ g₁ ro e1 x₁ vo=>?_)
 refine Np.bind (Np.holding (H.snd i g₁ st₁)) λiv st2 g₂ ri e2 x₂ vi=>?_
 refine nZ (Np.standAt (dA (Np.bind (BM G.PK (vo.mono x₂) vi).np λold st3 g₃ rold e3 x₃ vold=>?_)))
 refine dA (Np.bind (Np.holding (H.snd v g₃ st3)) λb st4 g₄ rb e4 x₄ vb=>dA (Np.standAt ?_))
 refine Np.bind (lS (β:=Unit) (uW (vold.mono x₄) vb).np) λc st5 g5 rc e5 x₅ vc=>Np.standAt ?_
 have x:=x₃.trans (x₄.trans x₅)
 rw[GH i hi]
 exact Np.bind (Np.holding (vz G.PK (vo.mono (x₂.trans x)) (vi.mono x) vc).np) λ_ st6 g6 _ e6 x₆ _=>Np.release (Np.pure .next)
theorem GJ(H:bf m ev){it:Expr}{x:V}{st st':St}(e:ev it st=.ok x st'):(it.ctorIdx==7)=false:=by
 cases h:it.ctorIdx==7 with
 |false=>rfl
 |true=>exact kz ((H.kE it st h).symm.trans e)
theorem GK(G:aB m P K mg mb)(hm:m.env=m.cZ)(hlv:m.lv=true)(ih:∀ os,bf (m.x os) ev){ex:Stmt->M Fl}(HX:∀ os s,dr (m.x os) (exec s m.env) (ex s) (aT (m.x os)))(t it:Expr)(body:List Stmt)(p:Pos):
  Np m g st (exec (.For t it body [] p) m.env) (plainS P m.lv ev (bH ex body) m.sc t it st) (aT m):=by
 have H:bf m ev:=⟨(ih []).snd,(ih []).kE,(ih []).use⟩
 show Np m g st (acr p>>=λ_=>eval it m.env>>=λx=>aeN it m.env x>>=λx=>acr it.pos>>=λ_=>ace [x] (ago x)>>=λi=>agm (.forLoop t i body [] m.env) m.env) _ _
 refine Np.standAt (Np.bind (H.snd it g st) λx st₁ g₁ rx e1 x₁ vx=>?_)
 rw[wu it (GJ H e1)]
 refine fJ (Np.standAt (Np.bI (wx x) λio e2 s Q E R Pp=>?_))
 refine az (bN (bt (wo G.O (G.O.df hlv) vx e2 R λh₂ itA hB=>?_)))
 obtain⟨os,W,keep,R₂,hW,walk,self⟩:=hB
 exact qQ G.O (s:={s with heap:=h₂}) Pp λE' PT=>qS G.O hm (walk m rfl rfl rfl rfl (G.O.df hlv) G.O g₁ t (.refl _)) (λos g st x rx vx=>l0 G.x (ih os) 3 t x rx g st vx) (λos=>ie (HX os) body) io.1 g₁ os st₁ _ Q E' (.refl _) hW R₂ PT
def iU{β δ α:Type}(m:Am)(g:Gs)(st:St)(t:Sem β)(K:β->Sem δ)(r:R α)(rel:Gs->α->δ->Prop):Prop:=
 ∀ (s:aaC) (Q:δ->Sh) (E:Value->Sh),Rel m g st s.heap->bW m g r rel Q E s->ao (model m.c.prog m.c.w) m.A t (λv s'=>ao (model m.c.prog m.c.w) m.A (K v) Q E s') E s
theorem w5{α β:Type}(H:bf m ev){pos:Pos}{e:Expr}{rf:Value}{K:Value->Sem β}{F:V->M α}{rel:Gs->α->β->Prop}(ha:notStar e=true)(hk:∀ h,Keeps (model m.c.prog m.c.w) h rf)
  (h:∀ w st₁ g₁ rw,m.VR g₁ w rw->iU m g₁ st₁ (aal rf [rw]) K (F w st₁) rel):Np m g st (aij pos rf [] (ahK pos (ael [e] m.env)) []>>=K) ((ev e>>=F) st) rel:=by
 intro s Q E R Pp
 rw[iP (show [e].all notStar=true from aab.mpr ⟨ha,rfl⟩),iQ]
 refine az (lZ (lR [e]) ?_)
 show ao _ _ (eval e m.env>>=λv=>ace [v] (pure [])>>=λvs=>pure (v::vs)) _ _ _
 refine az ((H.snd e g st).use R (λw st2 e2 g₂ h₂ tk2 rw' x₂ R₂ vw=>?_) (λk st2 e2 g₂ h₂ tk2 ee x₂ R₂ X=>?_) λe2=>?_)
 ·rw[cb e2]at Pp
  exact az (bN (aK (aK ⟨hk _,h w st2 g₂ rw' vw {s with heap:=h₂,toks:=tk2} Q E R₂ (Pp.shift x₂)⟩)))
 ·rw[fV e2]at Pp;exact Pp g₂ h₂ tk2 ee x₂ R₂ X
 ·rw[eG e2]at Pp;exact Pp.elim
theorem w6{n:String}{v:V}(h:pv n v=true):v=.ty n:=by
 cases v with
 |ty x=>exact congrArg V.ty (beq_iff_eq.mp h)
 |_=>exact aaa h
theorem GL{t:Expr}(h:isTup t=true):cW λts k p=>t=.Tuple ts k p:=by
 revert h
 exact aaO (motive_1:=λt=>isTup t=true->cW λts k p=>t=.Tuple ts k p) t (λ_ _ _ h=>aaa h) (λ_ _ _ h=>aaa h) (λ_ _ _ _ h=>aaa h) (λ_ _ _ h=>aaa h) (λ_ _ _ _ h=>aaa h) (λ_ _ _ _ h=>aaa h) (λ_ _ _ h=>aaa h) (λ_ _ _ h=>aaa h) (λ_ _ _ _ h=>aaa h) (λ_ _ _ _ h=>aaa h) (λ_ _ _ _ _ h=>aaa h) (λ_ _ _ _ h=>aaa h) (λ_ _ h=>aaa h) (λ_ _ h=>aaa h) (λ_ _ h=>aaa h) (λ_ _ _ _ h=>aaa h) (λ_ _ _ _ h=>aaa h) (λ_ _ _ _ h=>aaa h) (λ_ _ h=>aaa h) (λ_ _ _ h=>aaa h) (λ_ _ _ h=>aaa h) (λ_ _ _ h=>aaa h) (λ_ _ h=>aaa h) (λ_ _ h=>aaa h) (λ_ _ h=>aaa h) (λts k p=>λ_=>⟨ts,k,p,rfl⟩) (λ_ _ _ _ h=>aaa h)
theorem GN(G:aB m P K mg mb)(hm:m.env=m.cZ)(hlv:m.lv=true)(ih:∀ os,bf (m.x os) ev){ex:Stmt->M Fl}(HX:∀ os s,dr (m.x os) (exec s m.env) (ex s) (aT (m.x os))){ts:List Expr}{k}{tp q:Pos}{body:List Stmt}{w:V}{rw':Value}(vw:m.VR g w rw'):
  iU m g st (aal (.type "enumerate") [rw']) (λx=>acr q>>=λ_=>ace [x] (ago x)>>=λi=>agm (.forLoop (.Tuple ts k tp) i body [] m.env) m.env) ((bx w>>=λa=>bV a>>=λxs=>guard (decide (xs.length<=lim))>>=λ_=>
   loop (bI (some (a,xs))) (λv=>iL xs v>>=eA (asg P m.lv ev m.sc 3 (.Tuple ts k tp)) (bH ex body>>=eR)) ((aaw xs.length).map λ(k:Nat)=>V.int (k:Int))>>=eD) st) (aT m):=by
 refine gM (Pr:=λr=>iU m g st _ _ r (aT m)) (λ_ _ _ _ P=>P.elim) λa ha=>jy ku (Pr:=λr=>iU m g st _ _ r (aT m)) (λ_ _ _ _ P=>P.elim) λxs ho=>gq (fD _) (Pr:=λr=>iU m g st _ _ r (aT m)) (λ_ _ _ _ P=>P.elim) λ_ hl s Q E R Pp=>?_
 rw[hH ha]at vw
 obtain⟨l,y,rfl,hp⟩:=vw
 obtain⟨rs,hL,hr⟩:=R.isList hp ho
 refine bt (call_enumerate_list hL λh' he hit hz hk=>cV (az (bN (bt (wpAny_pyIter_enum he ?_)))))
 obtain⟨oi,hi1,hi2,hi3⟩:=hit
 have Rf:Rel (m.x [(s.heap.objs.size+1,lY s.heap.objs.size 0 .none),(s.heap.objs.size,oi)]) g st h':=
  (R.x0.iS (dP _) hk hi1).lW (bc.iS (os:=[]) (R.inv.free (ko (adE _))) (abY (aiM _))) he
 refine qQ (s:={s with heap:=h'}) G.O Pp λE' PT=>qS G.O hm (D3 (ts:=ts) (x1:=k) (pt:=tp) (it:=s.heap.objs.size) (G.O.df hlv) hp) (λos g st x rx vx=>l0 G.x (ih os) 3 _ x rx g st vx) (λos=>ie (HX os) body) _ g _ st _ Q E' (.refl _) ⟨0,oi,.none,xs.length,rfl,⟨hi2,hi3⟩,agc _,?_⟩ Rf PT
 exact abJ λk _=>congrArg V.int (aeV (k:Int)).symm
theorem GO(G:aB m P K mg mb)(hm:m.env=m.cZ)(hlv:m.lv=true)(ih:∀ os,bf (m.x os) ev)(hname:∀ x p,ev (.Name x p)=name P m.sc x){ex:Stmt->M Fl}(HX:∀ os s,dr (m.x os) (exec s m.env) (ex s) (aT (m.x os)))(t e:Expr)(f:Str)(np cp:Pos)(body:List Stmt)(p:Pos):
  Np m g st (exec (.For t (.Call (.Name f np) [e] [] cp) body [] p) m.env) (uB P m.lv ev (bH ex body) m.sc t f e st) (aT m):=by
 show Np m g st (acr p>>=λ_=>eval (.Call (.Name f np) [e] [] cp) m.env>>=λx=>acr cp>>=λ_=>ace [x] (ago x)>>=λi=>agm (.forLoop t i body [] m.env) m.env) _ _
 refine Np.standAt (Np.aL λhg=>?_)
 obtain⟨ht,hs⟩:=aab.mp hg
 have H:bf m ev:=⟨(ih []).snd,(ih []).kE,(ih []).use⟩
 obtain⟨ts,k,tp,rfl⟩:=GL ht
 rw[aet]
 refine dA (Np.bind (by rw[<-hname f np];exact H.snd (.Name f np) g st) λfv st₁ g₁ rf e1 x₁ vf=>Np.aL λhf=>?_)
 rw[w6 hf]at vf
 rw[show rf=.type "enumerate" from vf]
 exact w5 H hs (λ_=>⟨.machine,.inr (.inl rfl),adp rfl⟩) λw st2 g₂ rw' vw=>GN G hm hlv ih HX vw
end
end
section
open _root_.PySem.SeqAt
section
variable {m:Am} {g g₀:Gs} {st:St} {α:Type} {P:a9} {K:Frag} {mg mb:Str->Option Value} {ev:Expr->M V}
noncomputable def mh (b:By) (k:Nat):List V:=(b.take k).reverse.map λx=>V.int (x.toNat:Int)
theorem w7{b:By}{k:Nat}(h:k<b.length):mh b (k+1)=V.int ((b.getD k 0).toNat:Int)::mh b k:=by
 unfold mh
 rw[List.take_succ_eq_append_getElem h,List.reverse_append,aaq,aat,aaz h]
 rfl
theorem GP{tgt:Expr}{it:Addr}{b:By}{t:Tok}(hv:m.A.handled=none)(hz:b.length<=1048576):
  Walk m g₀ tgt (.ref it) pure (bI none) (λos rest=>∃ k:Nat,aO (k<=b.length) (os=[(it,ig b t ((k:Int) -1))]) (rest=mh b k)) where
 calm:=nW _
 quiet:=qT
 next g os v vs st st₁ x s Q E E' x₀ hW R hc hd k:=by
  obtain⟨n,hn,rfl,h3⟩:=hW
  cases hd
  cases n with
  |zero=>contradiction
  |succ n=>
   rw[w7 hn]at h3
   obtain⟨rfl,h5⟩:=abU.inj h3
   have e:((n+1:Nat):Int) -1=(n:Int):=by lia
   refine GC (k:=n) (e▸R.eI) hn hz λh' u tk hit' hs=>⟨_,rfl,?_⟩
   exact qU hit' rfl (by decide) (k g h' tk _ [(it,ig b t ((n:Int) -1))] (.refl g) ⟨n,aev hn,rfl,h5⟩ (R.lU (λb _ hb q=>(hs.2 b hb).trans q) hit') (.int _ _))
 fin g os st s Q E x₀ hW R hc k:=by
  obtain⟨n,hn,rfl,h3⟩:=hW
  cases n with
  |zero=>exact GD hv R.eI λh' hs=>k h' (R.lX hs).of0
  |succ n=>rw[w7 hn]at h3;contradiction
theorem GQ(G:aB m P K mg mb)(hm:m.env=m.cZ)(hlv:m.lv=true)(ih:∀ os,bf (m.x os) ev){ex:Stmt->M Fl}(HX:∀ os s,dr (m.x os) (exec s m.env) (ex s) (aT (m.x os))){tgt:Expr}{q:Pos}{body:List Stmt}{w:V}{rw':Value}(vw:m.VR g w rw'):
  iU m g st (aal (.type "reversed") [rw']) (λx=>acr q>>=λ_=>ace [x] (ago x)>>=λi=>agm (.forLoop tgt i body [] m.env) m.env) ((eZ w>>=λb=>guard (decide (b.length<=lim))>>=λ_=>
   loop (bI none) (λv=>pure v>>=eA (asg P m.lv ev m.sc 3 tgt) (bH ex body>>=eR)) (b.reverse.map λx=>V.int (x.toNat:Int))>>=eD) st) (aT m):=by
 refine gM (Pr:=λr=>iU m g st _ _ r (aT m)) (λ_ _ _ _ P=>P.elim) λb hb=>gq (fD _) (Pr:=λr=>iU m g st _ _ r (aT m)) (λ_ _ _ _ P=>P.elim) λ_ hl s Q E R Pp=>?_
 rw[nA hb]at vw
 obtain⟨t,rfl⟩:=vw
 have hz:b.length<=1048576:=of_decide_eq_true (hU hl)
 refine bt (GB hz λtk=>cV (az (bN (bt (GF (aaX _ rfl) ?_)))))
 refine qQ (s:={s with heap:=s.heap.push (ig b t ((b.length:Int) -1)),toks:=tk}) G.O Pp λE' PT=>qS G.O hm (GP (tgt:=tgt) (it:=s.heap.objs.size) (G.O.df hlv) hz) (λos g st x rx vx=>l0 G.x (ih os) 3 _ x rx g st vx) (λos=>ie (HX os) body) _ g _ st _ Q E' (.refl _) ⟨b.length,aaZ _,rfl,?_⟩ (R.q6 rfl) PT
 unfold mh;rw[List.take_length]
theorem GR(G:aB m P K mg mb)(hm:m.env=m.cZ)(hlv:m.lv=true)(ih:∀ os,bf (m.x os) ev)(hname:∀ x p,ev (.Name x p)=name P m.sc x){ex:Stmt->M Fl}(HX:∀ os s,dr (m.x os) (exec s m.env) (ex s) (aT (m.x os)))(t e:Expr)(f:Str)(np cp:Pos)(body:List Stmt)(p:Pos):
  Np m g st (exec (.For t (.Call (.Name f np) [e] [] cp) body [] p) m.env) (uC P m.lv ev (bH ex body) m.sc t f e st) (aT m):=by
 show Np m g st (acr p>>=λ_=>eval (.Call (.Name f np) [e] [] cp) m.env>>=λx=>acr cp>>=λ_=>ace [x] (ago x)>>=λi=>agm (.forLoop t i body [] m.env) m.env) _ _
 refine Np.standAt (Np.aL λhs=>?_)
 have H:bf m ev:=⟨(ih []).snd,(ih []).kE,(ih []).use⟩
 rw[aet]
 refine dA (Np.bind (by rw[<-hname f np];exact H.snd (.Name f np) g st) λfv st₁ g₁ rf e1 x₁ vf=>Np.aL λhf=>?_)
 rw[w6 hf]at vf
 rw[show rf=.type "reversed" from vf]
 exact w5 H hs (λ_=>⟨.machine,.inr (.inl rfl),adp rfl⟩) λw st2 g₂ rw' vw=>GQ G hm hlv ih HX vw
end
end
section
open _root_.PySem.SeqAt
structure ij(P:a9)(K:Frag):Prop where
 one:∀ c,isExc P c=true->(clsIn K c).isSome=true∧instIn K (.ref c) (.type "tuple")=some false∧subIn K (.ref c) (.type "BaseException")=some true
 two:∀ c d,isExc P c=true->isExc P d=true->subIn K (.ref c) (.ref d)=some (decide (d=c))
section
variable {m:Am} {g:Gs} {st:St} {α:Type} {P:a9} {K:Frag} {mg mb:Str->Option Value} {ev:Expr->M V}
theorem GS(x:Str):Still (name P m.sc x):=λst=>uT m.sc x st
theorem GU{c:Addr}(e:(clsIn K c).isSome=true):d9 λa b cd d=>K.lookup c=some ⟨a,b,.cls cd,d⟩:=by
 unfold clsIn at e
 cases h:K.lookup c with
 |none=>rw[h]at e;exact aaa e
 |some o=>
  rw[h]at e
  obtain⟨a,b,data,d⟩:=o
  cases data with
  |cls cd=>exact⟨a,b,cd,d,rfl⟩
  |_=>exact aaa e
theorem GV{K:Frag}{M:Model}{h:Heap}(X:K.In h){c:Addr}(e:(clsIn K c).isSome=true):Looks M h (isType (.ref c)) true:=by
 obtain⟨a,b,cd,d,ho⟩:=GU e
 exact(aeh (part:=some afD) (X _ _ ho)).andThen .now
theorem GW(XK:ij P K){M:Model}{h:Heap}(X:K.In h){e k d:Addr}{oe:Obj}(he:h.get? e=some oe)(hc:oe.cls=.ref k)(hk:isExc P k=true)(hd:isExc P d=true):Looks M h (ajR (.ref e) (.ref d)) (decide (d=k)):=by
 obtain⟨d1,d2,d3⟩:=XK.one d hd
 unfold ajR
 refine(looks_instIn X d2).andThen ?_
 simp only[aaK,if_false]
 refine Looks.now.andThen ?_
 simp only[adw,aeo]
 have ex:Looks M h (ahN (.ref d)) true:=by
  unfold ahN
  refine(GV X d1).andThen ?_
  exact aeu X d3
 simp only[bind_assoc]
 refine ex.andThen ?_
 simp only[afA,aaK,if_false,pure_bind]
 have ty:Looks M h (ahc (.ref e)) (.ref k):=(aeh (part:=some afD) he).andThen (by rw[hc];exact .now)
 refine ty.andThen ((aeu X (XK.two k d hk hd)).andThen ?_)
 cases decide (d=k)with
 |true=>exact adp rfl
 |false=>exact adp rfl
noncomputable abbrev Am.marked (m:Am) (e:Addr):Am:={m with A:=m.A.mark (some (.ref e)),lv:=false}
theorem aB.marked(G:aB m P K mg mb)(e:Addr):aB (m.marked e) P K mg mb:=
 ⟨⟨G.O.env,G.O.frames,G.O.ff,G.O.fe,G.O.fk,G.O.dep,G.O.hV,(λh=>nomatch h),G.O.fR⟩,G.PK,G.sys⟩
theorem Rel.marked{h:Heap}(R:Rel m g st h)(e:Addr):Rel (m.marked e) g st h:=⟨R.inv,R.loc⟩
theorem Rel.unmarked{h:Heap}{e:Addr}(R:Rel (m.marked e) g st h):Rel m g st h:=⟨R.inv,R.loc⟩
theorem aT.unmarked{e:Addr}{a:Fl}{b:Flow}(q:aT (m.marked e) g a b):aT m g a b:=q
theorem w8{M:Model}{A:aaY}{env:Env}{E:Value->Sh}{s:aaC}{c:Code}{e:Addr}{Q:Flow->Sh}(h:codeN M (A.mark (some (.ref e))) c (λr s'=>∃ f,r=.ok f∧Q f s') s):ao M A (agm c env (some (.ref e))) Q E s:=by
 unfold agm
 refine gG (pe (gc h λr s' hr=>?_) (by intro z;cases z))
 obtain⟨f,rfl,hq⟩:=hr
 exact hq
theorem GX{Z:Prop}{nm:Str->M V}{bH:List Stmt->M Fl}{c:Addr}{t:Option Expr}{nm':Option Str}{body:List Stmt}{pos:Pos}{hs:List agk}(hn:∀ x,Still (nm x))(h0:handlers P nm bH c (.ExceptHandler t nm' body pos::hs) st=.no->Z)
  (h:∀ x q d b bs,t=some (.Name x q)->nm'=none->body=b::bs->nm x st=.ok (.ah d) st->(isExc P c&&isExc P d)=true->handlers P nm bH c (.ExceptHandler t nm' body pos::hs) st=(if d=c then calm (bH body)else handlers P nm bH c hs) st->Z):Z:=by
 generalize hr:handlers P nm bH c (.ExceptHandler t nm' body pos::hs) st=r at h0 h
 replace hr:(guard (nm'.isNone&&!body.isEmpty)>>=λ_=>aG (t.bind kc)>>=λx=>nm x>>=λv=>pn v>>=λd=>guard (isExc P c&&isExc P d)>>=λ_=>if d=c then calm (bH body)else handlers P nm bH c hs) st=r:=hr
 revert hr
 refine gq (fD _) (Pr:=λr'=>r'=r->Z) (λe=>h0 e.symm) λ_ h1=>gM (Pr:=λr'=>r'=r->Z) (λe=>h0 e.symm) λx hx=>gq (hn x) (Pr:=λr'=>r'=r->Z) (λe=>h0 e.symm) λv hv=>gM (Pr:=λr'=>r'=r->Z) (λe=>h0 e.symm) λd hd=>gq (fD _) (Pr:=λr'=>r'=r->Z) (λe=>h0 e.symm) λ_ h2 e=>?_
 obtain⟨t',rfl,hx⟩:=aaj.mp hx
 obtain⟨q,rfl⟩:=pz hx
 obtain⟨h4,h3⟩:=aab.mp (hU h1)
 cases body with
 |nil=>exact aaa h3
 |cons b bs=>exact h x q d b bs rfl (acb.mp h4) rfl (uL hd▸hv) (hU h2) e.symm
theorem GY(G:aB m P K mg mb)(XK:ij P K){s:aaC}{e k d:Addr}{x:Str}{p pos:Pos}{fl:Option Value}(R:Rel m g st s.heap)(X:eF m.c g st.H s.heap e k fl)(hn:name P m.sc x st=.ok (.ah d) st)(hg:(isExc P k&&isExc P d)=true):
  codeN (model m.c.prog m.c.w) (m.A.mark (some (.ref e))) (.handlers (.ref e) [.ExceptHandler (some (.Name x p)) none [] pos] m.env) (λr s'=>∃ f,r=.ok f∧f=(if decide (d=k)=true then Flow.brk else .next)∧s'=s) s:=by
 obtain⟨hk,hd⟩:=aab.mp hg
 obtain⟨hx,hl⟩:=ql (m:=m.marked e) (g:=g) G.PK.glob (G.marked e).O hn
 obtain⟨oe,vs,a0,I,_⟩:=X
 refine fy ?_ rfl
 show ao _ (m.A.mark (some (.ref e))) ((acr pos>>=λ_=>eval (.Name x p) m.env>>=λty=>acr pos>>=λ_=>ajR (.ref e) ty>>=λb=>pure (if b=true then Flow.brk else .next)).onRaise (λx=>do adH x m.env;adh x)>>=λf=>pure (ahC f)) _ _ s
 refine az (gG (cV (aC (ajI (hl s _ _ (R.marked e) λr hr=>?_) hx))))
 rw[show r=.ref d from hr]
 exact cV (aC ((GW XK (G.PK.KX.keeps R.inv.base) I.get I.cls hk hd).here (aK (aK ⟨_,rfl,rfl,rfl⟩))))
theorem GZ(G:aB m P K mg mb){s:aaC}{e k:Addr}{exb:Stmt->M Fl}(HB:∀ s,dr (m.marked e) (exec s m.env) (exb s) (aT (m.marked e))){b:Stmt}{bs:List Stmt}{pos:Pos}(R:Rel m g st s.heap)(X:eF m.c g st.H s.heap e k (some .none)){Q:Flow->Sh}{E:Value->Sh}
  (Pp:bW m g (calm (bH exb (b::bs)) st) (aT m) Q E s):codeN (model m.c.prog m.c.w) (m.A.mark (some (.ref e))) (.handlers (.ref e) [.ExceptHandler none none (b::bs) pos] m.env) (λr s'=>∃ f,r=.ok f∧Q f s') s:=by
 refine fy ?_ rfl
 show ao _ (m.A.mark (some (.ref e))) ((acr pos>>=λ_=>afs (.ref e) none>>=λ_=>execs (b::bs) m.env).onRaise (λx=>do adH x m.env;adh x)>>=λf=>pure (ahC f)) _ _ s
 refine az (gG (cV (aC (nR (m:=m.marked e) (fr:=none) (R.marked e) X λh' R' _=>?_))))
 unfold calm at Pp
 refine(ie (m:=m.marked e) HB (b::bs) g st).use (s:={s with heap:=h'}) R' (λfl st2 e2 g₂ h₂ tk2 fl' x₂ R₂ q₂=>?_) (λkk st2 e2 g₂ h₂ tk2 ee x₂ R₂ X₂=>?_) λe2=>?_
 ·rw[e2]at Pp
  exact aK ⟨_,rfl,Pp g₂ h₂ tk2 fl' x₂ R₂.unmarked q₂.unmarked⟩
 ·rw[e2]at Pp;exact Pp.elim
 ·rw[e2]at Pp;exact Pp.elim
theorem G1(G:aB m P K mg mb)(XK:ij P K){e k:Addr}{exb:Stmt->M Fl}(HB:∀ s,dr (m.marked e) (exec s m.env) (exb s) (aT (m.marked e))){s:aaC}{Q:Flow->Sh}{E:Value->Sh}(R:Rel m g st s.heap)(X:eF m.c g st.H s.heap e k (some .none))(hs:List agk)
  (Pp:bW m g (handlers P (name P m.sc) (bH exb) k hs st) (aT m) Q E s):ao (model m.c.prog m.c.w) m.A (handleBy (.ref e) m.env hs) Q E s:=by
 induction hs with
 |nil=>exact Pp.elim
 |cons h hs ih=>
  obtain⟨t,nm,body,pos⟩:=h
  refine GX (P:=P) (st:=st) (nm:=name P m.sc) (bH:=bH exb) (c:=k) (t:=t) (nm':=nm) (body:=body) (pos:=pos) (hs:=hs) GS (λz=>?_) (λx q d b bs e1 e2 e3 hn hg z=>?_)
  ·rw[z]at Pp;exact Pp.elim
  ·subst e1
   subst e2
   subst e3
   rw[z]at Pp
   show ao _ _ (ace [.ref e] (agm (.handlers (.ref e) [.ExceptHandler (some (.Name x q)) none [] pos] m.env) m.env (some (.ref e)))>>=_) _ _ s
   refine az (bN (w8 (gc (GY G XK R X hn hg) λr s' hr=>?_)))
   obtain⟨f,rfl,rfl,rfl⟩:=hr
   refine⟨_,rfl,?_⟩
   by_cases hdk:d=k
   ·rw[if_pos hdk]at Pp
    rw[decide_eq_true hdk]
    show ao _ _ (pure true>>=λ_=>ace [.ref e] (agm (.handlers (.ref e) [.ExceptHandler none none (b::bs) pos] m.env) m.env (some (.ref e)))>>=λf=>pure f) _ _ _
    exact az (aK (az (bN (w8 (gc (GZ G HB R X Pp) λr s' ⟨f,e,h⟩=>⟨f,e,aK h⟩)))))
   ·rw[if_neg hdk]at Pp
    rw[decide_eq_false hdk]
    show ao _ _ (pure false>>=λ_=>handleBy (.ref e) m.env hs) _ _ _
    exact az (aK (ih Pp))
theorem G2(G:aB m P K mg mb)(XK:ij P K)(hm:m.env=m.cZ){ex exb:Stmt->M Fl}(HX:∀ s,dr m (exec s m.env) (ex s) (aT m))(HB:∀ e s,dr (m.marked e) (exec s m.env) (exb s) (aT (m.marked e)))(body:List Stmt)(hs:List agk)(p:Pos):
  Np m g st (exec (.Try body hs [] [] p) m.env) (attempt (bH ex body) (λc=>handlers P (name P m.sc) (bH exb) c hs) st) (aT m):=by
 rw[arm_exec_Try]
 refine Np.standAt ?_
 intro s Q E R Pp
 unfold attempt at Pp
 show ao _ _ ((execs body m.env).attempt>>=_) _ _ _
 refine az (tG ((ie HX body g st).use R (λfl st2 e2 g₂ h₂ tk2 fl' x₂ R₂ q₂=>?_) (λk st2 e2 g₂ h₂ tk2 e x₂ R₂ X₂=>?_) λe2=>?_))
 ·rw[e2]at Pp
  cases fl with
  |next=>rw[show fl'=.next from q₂];exact aK (Pp g₂ h₂ tk2 _ x₂ R₂ .next)
  |ret v=>obtain⟨r,rfl,hv⟩:=q₂;exact aK (Pp g₂ h₂ tk2 _ x₂ R₂ (.ret hv))
 ·rw[e2]at Pp
  cases hs with
  |nil=>exact Pp.elim
  |cons hd hs=>
   show ao _ _ (adH (.ref e) m.env>>=λ_=>afs (.ref e) none>>=λ_=>handleBy (.ref e) m.env (hd::hs)) _ _ _
   refine aC (qP (s:={s with heap:=h₂,toks:=tk2}) G.O hm R₂ X₂ λh₃ R₃ X3=>?_)
   refine aC (nR (s:={s with heap:=h₃,toks:=tk2}) (fr:=none) R₃ X3 λh₄ R4 X4=>?_)
   exact G1 G XK (HB e) R4 X4 (hd::hs) (Pp.shift x₂)
 ·rw[e2]at Pp;exact Pp.elim
end
end
section
open _root_.PySem.SeqAt
section
variable {P:a9} {K:Frag} {mg mb:Str->Option Value} {C:Ct} {lv:Bool} {n:Nat} {sc:Scope}
theorem G3{x:Str}{p:Pos}:ev P C lv cY sc (.Name x p)=name P sc x:=rfl
def mi(P:a9)(K:Frag)(mg mb:Str->Option Value)(C:Ct)(d:Nat):Prop:=
 ∀ m,aB m P K mg mb->m.d=d->m.env=m.cZ->bf m (ev P C m.lv cY m.sc)->∀ (x:Str) (np:Pos) (args:List Expr) (cp p:Pos) (g:Gs) (st:St),
  Np m g st (exec (.Raise (some (.Call (.Name x np) args [] cp)) none p) m.env) (pR P m.lv (ev P C m.lv cY m.sc) m.sc x args st) (aT m)
theorem G4{it:Expr}{q:Str×Expr}(h:pQ it=some q):∃ np cp,it=.Call (.Name q.1 np) [q.2] [] cp:=by
 obtain⟨c,hc,h1⟩:=aaj.mp h
 obtain⟨x,hx,h2⟩:=aaj.mp h1
 obtain⟨e,he,h3⟩:=aaj.mp h2
 obtain⟨cp,rfl⟩:=pA hc
 obtain⟨np,e1⟩:=pz hx
 rw[e1,px he]
 cases hb:c.2.2.isEmpty with
 |false=>rw[hb]at h3;exact ai h3
 |true=>
  rw[hb]at h3
  have h3:=aae.inj h3
  subst h3
  exact⟨np,cp,by rw[isEmpty_nil hb]⟩
section
variable {m:Am} {g:Gs} {st:St} {ev:Expr->M V}
theorem G5(H:bf m ev)(e:Option Expr)(p:Pos):Np m g st (exec (.Return e p) m.env) (retS ev e st) (aT m):=by
 cases e with
 |none=>exact FX p
 |some e=>exact FY H e p
theorem G6(G:aB m P K mg mb)(H:bf m ev)(t:Expr)(op:abZ)(v:Expr)(p:Pos):Np m g st (exec (.AugAssign t op v p) m.env) (ux P ev m.sc t op v st) (aT m):=
 ly (motive:=λt w=>Np m g st (exec (.AugAssign t op v p) m.env) (uw P ev m.sc op v w st) (aT m)) (λ_ _=>Np.no) (λo a tp=>GG G H o a tp op v p) (λo i sp=>Np.aL λh=>GI G H o i (gN h) sp op v p) (λ_ _ _=>Np.no) (λ_=>Np.no) t
theorem G7(G:aB m P K mg mb)(H:bf m ev)(ts:List Expr)(p:Pos):Np m g st (exec (.Delete ts p) m.env) (uA ev ts st) (aT m):=
 Np.aG λx hx=>Np.aL λ_=>by
  obtain⟨t,ht,hx⟩:=aaj.mp hx
  obtain⟨sp,rfl⟩:=Az hx
  rw[px ht]
  exact F0 G H x.1 x.2 sp p
theorem G8(G:aB m P K mg mb)(hm:m.env=m.cZ)(hlv:m.lv=true)(ih:∀ os,bf (m.x os) ev)(hname:∀ x p,ev (.Name x p)=name P m.sc x){ex:Stmt->M Fl}(HX:∀ os s,dr (m.x os) (exec s m.env) (ex s) (aT (m.x os)))(t it:Expr)(body:List Stmt)(p:Pos):
  Np m g st (exec (.For t it body [] p) m.env) (pS P m.lv ev (bH ex body) m.sc t it st) (aT m):=by
 have pl:Np m g st (exec (.For t it body [] p) m.env) (plainS P m.lv ev (bH ex body) m.sc t it st) (aT m):=GK G hm hlv ih HX t it body p
 unfold pS
 cases hc:pQ it with
 |none=>exact pl
 |some q=>
  obtain⟨np,cp,rfl⟩:=G4 hc
  dsimp only
  cases q.1==("enumerate":Str)with
  |true=>exact GO G hm hlv ih hname HX t q.2 q.1 np cp body p
  |false=>
   cases q.1==("reversed":Str)with
   |true=>exact GR G hm hlv ih hname HX t q.2 q.1 np cp body p
   |false=>exact pl
theorem G9(RZ:∀ (x:Str) (np:Pos) (args:List Expr) (cp p:Pos) (g:Gs) (st:St),Np m g st (exec (.Raise (some (.Call (.Name x np) args [] cp)) none p) m.env) (pR P m.lv ev m.sc x args st) (aT m))(e c:Option Expr)(p:Pos):
  Np m g st (exec (.Raise e c p) m.env) (uy P m.lv ev m.sc e c st) (aT m):=
 Np.aG λd hd=>Np.aG λx hx=>Np.aL λh=>by
  obtain⟨h1,h2⟩:=aab.mp h
  obtain⟨e',rfl,hd⟩:=aaj.mp hd
  obtain⟨cp,rfl⟩:=pA hd
  obtain⟨np,e1⟩:=pz hx
  rw[e1,isNone_none h1,isEmpty_nil h2]
  exact RZ x np d.2.1 cp p g st
end
theorem w9{d:Nat}(XK:ij P K)(HC:∀ m',aB m' P K mg mb->m'.d=d->ic m' P C)(RZ:mi P K mg mb C d)(n:Nat):∀ (m:Am),aB m P K mg mb->m.env=m.cZ->m.d=d->∀ s,dr m (exec s m.env) (ex P C n m.lv m.sc s) (aT m):=by
 induction n with
 |zero=>exactλm G hm hd s g st=>Np.no
 |succ n ih=>
  intro m G hm hd s g st
  have EV:∀ m',aB m' P K mg mb->m'.d=d->bf m' (ev P C m'.lv cY m'.sc):=λm' G' h=>E9 HC cY m' G' h
  have H:=EV m G hd
  have HX:=ih m G hm hd
  exact afP (motive_2:=λs=>Np m g st (exec s m.env) (ex P C (n+1) m.lv m.sc s st) (aT m)) s (λx0 x1 x2 x3 x4 x5 x6 x7 x8 x9=>Np.no) (λx0 x1 x2 x3 x4 x5 x6 x7 x8 x9=>Np.no) (λx0 x1 x2 x3 x4 x5 x6 x7 x8 x9 x10=>Np.no) (λe p=>G5 H e p) (λts p=>G7 G H ts p) (λts v p=>Gr G H ts v p) (λx0 x1 x2 x3 x4 x5 x6=>Np.no) (λt op v p=>G6 G H t op v p) (λx0 x1 x2 x3 x4=>Np.no) (λt it body o p=>Np.aL λh=>by rw[isEmpty_nil (aab.mp h).1];exact G8 G hm (aab.mp h).2 (λos=>EV (m.x os) G.x hd) (λx p=>G3) (λos=>ih (m.x os) G.x hm hd) t it body p) (λx0 x1 x2 x3 x4=>Np.no) (λx0 x1 x2 x3=>Np.no) (λt b o p=>FZ G H HX cY t b o p) (λx0 x1 x2=>Np.no) (λx0 x1 x2=>Np.no) (λx0 x1 x2=>Np.no) (λe c p=>G9 (RZ m G hd hm H) e c p) (λbody hs o f p=>Np.aL λh=>by rw[isEmpty_nil (aab.mp h).1,isEmpty_nil (aab.mp h).2];exact G2 G XK hm HX (λe=>ih (m.marked e) (G.marked e) hm hd) body hs p) (λx0 x1 x2 x3 x4=>Np.no) (λx0 x1 x2=>Np.no) (λx0 x1=>Np.no) (λx0 x1 x2 x3=>Np.no) (λx0 x1=>Np.no) (λx0 x1=>Np.no) (λv p=>FV G H v p) (λp=>FW p) (λx0=>Np.no) (λx0=>Np.no)
end
end
section
open _root_.PySem.SeqAt
structure mj(m:Am)(C:Ct):Prop where
 call:∀ (f:V) (args:List V) (rf:Value) (rargs:Vs) (g:Gs) (st:St) (A:aaY) (s:aaC) (Q:Value->Sh) (E:Value->Sh),gO m A->m.VR g f rf->m.aA g args rargs->m.lv=true->Rel m g st s.heap->
  bW m g (Lite.call C true f args st) m.VR Q E s->codeN (model m.c.prog m.c.w) A (.call rf ⟨rargs,[]⟩) (λr s'=>match r with | .ok (.ret v)=>Q v s' | .ok _=>False | .error e=>E e s') s
 keep:∀ (f:V) (args:List V) (rf:Value) (g:Gs) (st:St) (h:Heap),m.VR g f rf->Inv m.c g st.H h->m.lv=true->Lite.call C true f args st≠.no->Keeps (model m.c.prog m.c.w) h rf
structure fF(P:a9)(K:Frag)(mg:Str->Option Value):Prop where
 fn:∀ c:Cx,K.In c.b₀->∀ a f,P.fn a=some f->jE c a f
 xa:∀ a f,P.fn a=some f->ahf K (.ref a)=true
 cls:∀ C init,P.cls.lookup C=some init->makesIn K C=true∧aes K (.ref C) "__init__"=some (some (.ref init))∧aju K (.ref init)=some (.type "function")∧ahf K (.ref C)=true
theorem Ha(C:Addr)(rest:Vs):(adI "type.__call__" ⟨.ref C::rest,[]⟩).weight=1:=by rfl
theorem Hb(C:Addr)(rest:Vs):(adI "type.__call__" ⟨.ref C::rest,[]⟩).cUnits=1:=by rfl
theorem Hc(C:Addr)(rest:Vs):(adI "type.__call__" ⟨.ref C::rest,[]⟩).isGuard=false:=by
 show guardIds.contains "type.__call__"=false
 decide+kernel
section
variable {m:Am} {g:Gs} {st:St} {P:a9} {K:Frag} {mg mb:Str->Option Value} {C:Ct}
theorem xb(G:aB m P K mg mb)(hlv:m.lv=true):gO m m.A:=⟨G.O.frames,G.O.df hlv,G.O.fR,by lia,by lia⟩
theorem xc(G:aB m P K mg mb)(hlv:m.lv=true)(c:Addr)(rest:Vs):gO m (mk m.A c rest):=by
 refine⟨?_,G.O.df hlv,?_,?_,?_⟩
 ·show pushEnvs (adI "type.__call__" ⟨.ref c::rest,[]⟩).envs m.A.frames=_
  exact G.O.frames
 ·show pushGuards (adI "type.__call__" ⟨.ref c::rest,[]⟩).guards m.A.guards=_
  unfold Code.guards
  rw[Hc]
  exact G.O.fR
 ·show m.A.depth+(adI "type.__call__" ⟨.ref c::rest,[]⟩).weight<=_
  rw[Ha];lia
 ·show m.A.units+(adI "type.__call__" ⟨.ref c::rest,[]⟩).cUnits<=_
  rw[Hb];lia
theorem Hd{K:Frag}{M:Model}{h:Heap}{c:Addr}(Y:Makes M h c):Made M h c "object.__new__":=by
 obtain⟨⟨oc,od,cd,sl,hC,e1,e2,e4⟩,made,base,self,top,call,typ⟩:=Y
 have hm:Looks M h (mroOf (.ref c)) cd.mro:=((aeh (part:=none) hC).andThen .now).andThen .now
 generalize cd.mro=mr at hm e4
 cases mr with
 |nil=>exact aaa e4
 |cons c' l=>exact⟨⟨oc,od,cd,sl,hC⟩,⟨c',l,hm⟩,made,call,typ⟩
theorem Rel.He{h:Heap}{x dx c:Addr}(R:Rel m g st h)(fx:bc m.c g st.H x)(fd:bc m.c g st.H dx)(ne:x≠dx)(hx:h.get? x=some (aeY c dx))(hd:h.get? dx=some ads):Rel m (g.lay (x,dx)) {st with H:=st.H++[.inst c []]} h:=
 ⟨R.inv.lay (aaI.mpr ⟨λq=>ne (aaP.mp q),aaI.mpr ⟨λq=>(nomatch q),abC⟩⟩) (aas.mpr ⟨⟨fx,_,hx,rfl⟩,aas.mpr ⟨⟨fd,_,hd,[],0,rfl,.nil⟩,λ_ q=>(nomatch q)⟩⟩),R.loc.mono (fc g _) rfl⟩
theorem Hf(G:aB m P K mg mb)(T:fF P K mg)(RO:mj m C)(hlv:m.lv=true){c init:Addr}(hc:P.cls.lookup c=some init){args:List V}{rargs:Vs}(va:m.aA g args rargs):
  Np m g st (aal (.ref c) rargs) ((alloc (.inst c [])>>=λx=>Lite.call C true (.ah init) (x::args)>>=pq>>=λ_=>pure x) st) m.VR:=by
 obtain⟨t1,t2,t3,t4⟩:=T.cls c init hc
 intro s Q E R Pp
 have X:=G.PK.KX.keeps R.inv.base
 have Y:=makes_of (M:=model m.c.prog m.c.w) X t1
 have hi:=aea (M:=model m.c.prog m.c.w) X t2
 obtain⟨hh,gg,dd,tt,oo⟩:=s
 refine fP (wO (Hd (K:=K) Y) (aeL (new_K (init:=.ref init) Y hi (.inl rfl) ?_)))
 have k:∀ b o,hh.get? b=some o->((hh.push ads).push (aeY c hh.objs.size)).get? b=some o:=λb o e=>aaF _ (aaF _ e)
 have hx:((hh.push ads).push (aeY c hh.objs.size)).get? (hh.objs.size+1)=some (aeY c hh.objs.size):=by rw[<-aiY hh ads];exact aaX _ rfl
 have hdx:((hh.push ads).push (aeY c hh.objs.size)).get? hh.objs.size=some ads:=aaF _ (aaX _ rfl)
 have t1':Looks (model m.c.prog m.c.w) ((hh.push ads).push (aeY c hh.objs.size)) (ahc (.ref (hh.objs.size+1))) (.ref c):=(aeh hx).andThen .now
 refine⟨hh.objs.size+1,.ref init,rfl,t1'.andThen (Y.self.keeps k),t1'.andThen (hi.keeps k),(bind_fn X _ t3).keeps k,?_⟩
 have R1:=(R.keeps k).He (R.inv.free (ko (adE _))) (R.inv.free (dP hh)) (Nat.succ_ne_self _) hx hdx
 have hlast:=R.last (p:=(hh.objs.size+1,hh.objs.size))
 have xg:=fc g (hh.objs.size+1,hh.objs.size)
 refine fP (gc (RO.call (.ah init) (V.ref st.H.length::args) (.ref init) (.ref (hh.objs.size+1)::rargs) (g.lay (hh.objs.size+1,hh.objs.size)) {st with H:=st.H++[.inst c []]} _ ⟨(hh.push ads).push (aeY c hh.objs.size),gg,dd,tt,oo⟩ (λr s₂=>r=.none∧Q (.ref (hh.objs.size+1)) s₂) E (xc G hlv c rargs) (.ah init) (.cons (VR.ref hlast) (aA.mono xg va)) hlv R1 ?_) λr s' h=>h)
 replace Pp:bW m g (((Lite.call C true (.ah init) (V.ref st.H.length::args)>>=pq)>>=λ_=>pure (V.ref st.H.length)) {st with H:=st.H++[.inst c []]}) m.VR Q E ⟨hh,gg,dd,tt,oo⟩:=Pp
 rw[M.bind_assoc]at Pp
 cases hr:Lite.call C true (.ah init) (V.ref st.H.length::args) {st with H:=st.H++[.inst c []]} with
 |ok v st2=>
  rw[cb hr]at Pp
  intro g' h' tk r x Rr q
  revert Pp
  refine gM (Pr:=λr'=>bW m g r' m.VR Q E _->_) (λP=>P.elim) λ_ hv Pp=>?_
  rw[uM hv]at q
  exact⟨q,Pp g' h' tk _ (xg.trans x) Rr (VR.ref (x.at hlast))⟩
 |exc kk st2=>
  rw[fV hr]at Pp
  exactλg' h' tk e x Rr q=>Pp g' h' tk e (xg.trans x) Rr q
 |no=>rw[eG hr]at Pp;exact Pp.elim
theorem rB{b c:Bool}(h:(b||c)=true)(hc:c=false):b=true:=(abq.mp h).resolve_right λe=>aaa (hc.symm.trans e)
theorem Hg(G:aB m P K mg mb)(T:fF P K mg)(RO:mj m C){args:List V}{rf:Value}{rargs:Vs}(va:m.aA g args rargs)(f:V):m.VR g f rf->(m.lv||nj f)=true->Np m g st (aal rf rargs) (pM P C m.lv f args st) m.VR:=by
 have key:∀ f,m.VR g f rf->m.lv=true->Np m g st (aal rf rargs) (Lite.call C m.lv f args st) m.VR:=λf vf hlv s Q E R Pp=>fP (RO.call f args rf rargs g st m.A s Q E (xb G hlv) vf va hlv R (hlv▸Pp))
 cases f with
 |ah a=>
  intro vf hg
  have hlv:=rB hg rfl
  rw[show rf=.ref a from vf]at key ⊢
  show Np m g st _ (lF C m.lv a args (P.cls.lookup a) st) _
  cases hc:P.cls.lookup a with
  |some init=>rw[hlv];exact Hf G T RO hlv hc va
  |none=>exact key _ rfl hlv
 |bi id=>
  intro vf hg
  rw[show rf=.builtin id from vf]
  exact vO G.O (λne=>(abq.mp hg).elim G.O.df λh=>absurd (beq_iff_eq.mp h) ne) G.sys va λe=>e▸Ds G.O G.PK (by have:=G.O.hV;lia) va
 |ty n=>
  intro vf hg
  rw[show rf=.type n from vf]
  exact Dl G.O G.sys (G.O.df (rB hg rfl)) va
 |_=>exactλ_ _=>Np.no
theorem Hh(G:aB m P K mg mb)(T:fF P K mg)(RO:mj m C){args:List V}{rf:Value}{h:Heap}(I:Inv m.c g st.H h)(f:V):m.VR g f rf->(m.lv||nj f)=true->pM P C m.lv f args st≠.no->Keeps (model m.c.prog m.c.w) h rf:=by
 have key:∀ f,m.VR g f rf->m.lv=true->Lite.call C m.lv f args st≠.no->Keeps (model m.c.prog m.c.w) h rf:=λf vf hlv hn=>RO.keep f args rf g st h vf I hlv (hlv▸hn)
 cases f with
 |ah a=>
  intro vf hg hn
  replace hn:lF C m.lv a args (P.cls.lookup a) st≠.no:=hn
  cases hc:P.cls.lookup a with
  |some init=>rw[show rf=.ref a from vf];exact keeps_K (T.cls a init hc).2.2.2 h (G.PK.KX.keeps I.base)
  |none=>rw[hc]at hn;exact key (.ah a) vf (rB hg rfl) hn
 |bi id=>intro vf _ _;rw[show rf=.builtin id from vf];exact⟨.machine,.inr (.inl rfl),adp rfl⟩
 |ty n=>intro vf _ _;rw[show rf=.type n from vf];exact⟨.machine,.inr (.inl rfl),adp rfl⟩
 |_=>exactλ_ _ hn=>absurd rfl hn
theorem xd(G:aB m P K mg mb)(T:fF P K mg)(RO:mj m C):ic m P C where
 call f args rf rargs g st vf va:=Np.aL λhg=>Hg G T RO va f vf hg
 keep f args rf g st h vf I hn:=by
  cases hg:(m.lv||nj f)with
  |false=>exact absurd (by unfold aP;rw[hg];rfl) hn
  |true=>exact Hh G T RO I f vf hg (λe=>hn (by unfold aP;rw[hg];exact e))
end
end
section
open _root_.PySem.SeqAt
section
variable {m:Am} {g:Gs} {st:St} {P:a9} {K:Frag} {mg mb:Str->Option Value}
noncomputable def iV (lo:Lo):CR->R V
 | .ok v H=>.ok v ⟨lo,H⟩
 | .exc c H=>.exc c ⟨lo,H⟩
 | .no=>.no
theorem xf{C:Ct}{f:V}{args:List V}:Lite.call C true f args st=iV st.lo (C f args st.H):=by
 show(match C f args st.H with | .ok v H=>R.ok v {st with H:=H} | .exc c H=>R.exc c {st with H:=H} | .no=>R.no)=_
 cases C f args st.H<;>rfl
theorem Hi{lo:Lo}(r:R Fl):iV lo (iM r)=rr n6 lo r:=by
 cases r with
 |ok fl s=>cases fl<;>rfl
 |_=>rfl
theorem rC{α:Type}{o:Option α}{F:α->CR}{lo:Lo}(h:iV lo (lL o F)≠.no):∃ a,o=some a:=by
 cases o with
 |none=>exact absurd rfl h
 |some a=>exact⟨a,rfl⟩
theorem bW.xh{α β:Type}{r:R α}{rel:Gs->α->β->Prop}{Q:β->Sh}{E:Value->Sh}{s:aaC}(P:bW m g r rel Q E s):r≠.no:=λe=>by subst e;exact P.elim
theorem Hj(XK:ij P K)(T:fF P K mg){n:Nat}(RZ:mi P K mg mb (run P n) (n+2))(HC:∀ m',aB m' P K mg mb->m'.d=n+2->ic m' P (run P n))(G:aB m P K mg mb)(hd:m.d=n+2+1){args:List V}{rf:Value}{rargs:Vs}{A:aaY}{s:aaC}{Q E:Value->Sh}(HA:gO m A)(va:m.aA g args rargs)(R:Rel m g st s.heap)(f:V):
  m.VR g f rf->bW m g (iV st.lo (pT P (run P n) f args st.H)) m.VR Q E s->codeN (model m.c.prog m.c.w) A (.call rf ⟨rargs,[]⟩) (λr s'=>match r with | .ok (.ret v)=>Q v s' | .ok _=>False | .error e=>E e s') s:=by
 cases f with
 |ah a=>
  intro vf Pp
  rw[show rf=.ref a from vf]
  replace Pp:bW m g (iV st.lo (runC P (run P n) a args st.H)) m.VR Q E s:=Pp
  obtain⟨f,hf⟩:=rC Pp.xh
  unfold runC at Pp
  rw[hf]at Pp
  obtain⟨b,hb⟩:=rC (o:=binds f args) Pp.xh
  replace Pp:bW m g (iV st.lo (lL (binds f args) λb=>iM (bH (ex P (run P n) cY true f.scope) f.body ⟨dG f.scope.names b st.H.length,st.H++eE f.scope.names b⟩))) m.VR Q E s:=Pp
  rw[hb]at Pp
  replace Pp:bW m g (iV st.lo (iM (bH (ex P (run P n) cY true f.scope) f.body ⟨dG f.scope.names b st.H.length,st.H++eE f.scope.names b⟩))) m.VR Q E s:=Pp
  rw[Hi]at Pp
  exact FT G (T.fn m.c G.PK.KX a f hf) hd HA hb R va (body:=bH (ex P (run P n) cY true f.scope) f.body) (λm' G' h1 h2 h3 h4 g' st'=>ie (λs=>h2▸h3▸w9 XK HC RZ cY m' G' h4 h1 s) f.body g' st') Pp
 |_=>exactλ_ Pp=>Pp.elim
theorem Hk(T:fF P K mg){n:Nat}(G:aB m P K mg mb){args:List V}{rf:Value}{h:Heap}(I:Inv m.c g st.H h)(f:V):m.VR g f rf->iV st.lo (pT P (run P n) f args st.H)≠.no->Keeps (model m.c.prog m.c.w) h rf:=by
 cases f with
 |ah a=>
  intro vf hn
  rw[show rf=.ref a from vf]
  obtain⟨f,hf⟩:=rC (o:=P.fn a) hn
  exact keeps_K (T.xa a f hf) h (G.PK.KX.keeps I.base)
 |_=>exactλ_ hn=>absurd rfl hn
theorem Hl(XK:ij P K)(T:fF P K mg)(RZ:∀ n,mi P K mg mb (run P n) (n+2))(n:Nat):∀ (m:Am),aB m P K mg mb->m.d=n+2->mj m (run P n):=by
 induction n with
 |zero=>exactλm G hd=>⟨λf args rf rargs g st A s Q E HA vf va hlv R Pp=>Pp.elim,λf args rf g st h vf I hlv hn=>absurd rfl hn⟩
 |succ n ih=>exactλm G hd=>⟨λf args rf rargs g st A s Q E HA vf va hlv R Pp=>Hj XK T (RZ n) (λm' G' h=>xd G' T (ih m' G' h)) G hd HA va R f vf (xf (C:=run P (n+1))▸Pp),λf args rf g st h vf I hlv hn=>Hk T G I f vf (xf (C:=run P (n+1))▸hn)⟩
end
end
section
open _root_.PySem.SeqAt
section
variable {prog:acI} {w:World} {A:aaY} {E:Value->Sh} {h:Heap} {g:Array GenState} {d:Drawn} {t:Nat} {os:OsState}
variable {nm q:Str} {C N:Addr} {bs bm:Vs} {hdct:Bool} {sn:List Str} {sub:Vs} {ab:Bool} {col:Option Bool} {dd:Option Addr} {k0 k1 k2 k3 k5:Option Value}
theorem Hm{M:Model}{rest:Vs}{Q:Unit->Sh}(hC:h.get? C=some (aff nm q C N bs bm hdct sn sub ab col dd k0 k1 k2 k3 k5 "ValueError.__new__"))(b1:bm.contains (.type "ValueError")=true)
  (hq:Q () ⟨h,g,d,t,os⟩):wpAny M A (abS "ValueError.__new__" ⟨.ref C::rest,[]⟩) Q E ⟨h,g,d,t,os⟩:=by
 have F:=adX
 have hcont:(adW C::bm).contains (.type "ValueError")=true:=by simp only[adv,b1,ahj]
 have hstar:=F.noStar
 simp only[abS,F.newKind,F.newSplit,F.newRow]
 repeat (first |refine ajS hC ?_ | (refine ajj hC ?_;rw[hcont]) |refine wpAny_staticBase_exc hC ?_ |refine akm hC ?_ |simp only[bne_self_eq_false,aaK,if_false] |wp_step)
 exact hq
noncomputable abbrev cu (C t:Addr):Obj:={cls:=.ref C,data:=.fields #[.ref t,.none,.none,.none,.bool false,.none]}
noncomputable abbrev jF (rest:Vs):Obj:={cls:=.type "tuple",data:=.seq rest.toArray}
theorem Hn{rest:Vs}{Q:Value->Sh}(hC:h.get? C=some (aff nm q C N bs bm hdct sn sub ab col dd k0 k1 k2 k3 k5 "ValueError.__new__"))(b1:bm.contains (.type "ValueError")=true)
  (b2:bm.contains (.type "AttributeError")=false) (b3:bm.contains (.type "NameError")=false) (hrest:rest.length<=adV)
  (hq:Q (.ref (h.objs.size+1)) ⟨(h.push (jF rest)).push (cu C h.objs.size),g,d,t,os⟩):
  wpAny (model prog w) A (aal (.builtin "ValueError.__new__") (.ref C::rest)) Q E ⟨h,g,d,t,os⟩:=by
 have F:=adX
 refine aeL (codeAny_call_builtin_code (afw _ F.quiet) (Hm hC b1 ?_))
 have hends:=F.ends
 have hcB:(adW C::bm).contains (.type "ValueError")=true:=by simp only[adv,b1,ahj]
 have hcA:(adW C::bm).contains (.type "AttributeError")=false:=by simp only[adv,b2];rfl
 have hcN:(adW C::bm).contains (.type "NameError")=false:=by simp only[adv,b3];rfl
 refine codeAny_builtinAt F.entry ?_
 unfold aaD.«BaseException.__new__»
 refine aiC ?_
 show PySem.wpAt _ _ _ (stack>>=_) _ _ _
 refine aiC (PySem.wpAt_stack λp below=>aho ?_)
 wp_walk
 refine aho ?_
 rw[F.owner]
 repeat (first |with_reducible refine wpAny_madeHere_exc F.canon hC ?_ |with_reducible refine ajS hC ?_ | (with_reducible refine ajj hC ?_;first |rw[hcB] |rw[hcA] |rw[hcN]) |wp_step)
 show Q _ _
 rw[aiY]
 exact hq
end
end
section
open _root_.PySem.SeqAt Builtin Builtin.ObjectAttr Builtin.BaseException
noncomputable def kK:Vs->Vs
 | .ref _::r=>kK r
 |l=>l
noncomputable abbrev kL:Vs:=[.type "ValueError",.type "Exception",.type "BaseException",.type "object"]
theorem xi(self:Value){l:Vs}:kK l=kL->refuseLoop self "__setattr__" l=pure ():=by
 have k:∀ {l:Vs},l=kL->refuseLoop self "__setattr__" l=pure ():=λe=>by rw[e];exact aej.passes self
 induction l with
 |nil=>exact k
 |cons x r ih=>cases x with
  |ref c=>intro e;rw[refuseLoop_ref];exact ih e
  |_=>exact k
theorem onHeap{α:Type}{M:Model}{A:aaY}{t:Sem α}{r:α}{Q:α->Sh}{E:Value->Sh}{h:Heap}{s:aaC}(x:Looks M h t r)(e:s.heap=h)(q:Q r s):wpAny M A t Q E s:=x A Q E s (λb o z=>by rw[e];exact z) q
section
variable {prog:acI} {w:World} {A:aaY} {E:Value->Sh} {s:aaC} {K:Frag} {e c:Addr} {ob:Obj} {vs:Array Value}
def n9(h:Heap)(dx:Addr)(ns:List Str):Prop:=∃ m,h.Ns1 dx m∧Within m ns
theorem Ho{name:Str}{v:Value}{cd:afv}{Q:Unit->Sh}(X:K.In s.heap)(he:s.heap.get? e=some ob)(hc:ob.cls=.ref c)(hd:ob.dict=none)(hf:ob.data=.fields vs)
  (f1:aes K (.ref c) "__setattr__"=some (some (.builtin "object.__setattr__"))) (f2:agA K c name=some none) (f3:clsIn K c=some cd) (f4:cd.hasDict=true) (f5:kK cd.mro=kL) (f6:subIn K (.ref c) (.type "object")=some true)
  (hq:∀ h' tk,(∀ b o,b≠e->s.heap.get? b=some o->h'.get? b=some o)->(∃ dx,cB (h'.get? e=some {ob with dict:=some dx}) (dx≠e) (s.heap.get? dx=none) (n9 h' dx [name]))->Q () {s with heap:=h',toks:=tk}):
  wpAny (model prog w) A (ajf (.ref e) name v) Q E s:=by
 have SF:=aej
 have ty:∀ h',h'.get? e=some ob->Looks (model prog w) h' (ahc (.ref e)) (.ref c):=λh' he=>(aeh (part:=some afD) he).andThen (by rw[hc];exact .now)
 unfold ajf adY
 refine aam (wpAny_mkText ?_)
 unfold ahb
 refine aam (aam (aam (onHeap (ty s.heap he) rfl (onHeap (aea X f1) rfl ?_))))
 dsimp only
 refine abT ?_
 rw[SF.slot.bind (.ref e)]
 refine aam (aai (aam (aeL (adm SF.slot.plain SF.entry ?_))))
 have isO:Looks (model prog w) s.heap (aeK (.ref e) (.type "object")) true:=(ty s.heap he).andThen (aeu X f6)
 refine @ahJ (model prog w) _ _ {s with toks:=s.toks+1} "object.__setattr__" "object" "__setattr__" (.ref e) [.str name s.toks,v] [] _ SF.kind SF.split isO (SF.args (.ref e) (.str name s.toks) v) ?_
 have hm:Looks (model prog w) s.heap (mroOf (.ref c)) cd.mro:=(ahg X f3).andThen .now
 obtain⟨attr,ha,hr⟩:=aaj.mp f2
 have L3:Looks (model prog w) s.heap (storeTaker? attr) none:=by
  cases attr with
  |none=>exact .now
  |some a=>
   obtain⟨b,hb,hb2⟩:=aaR.mp hr
   refine(looks_takesIn X hb).andThen ?_
   cases b with
   |true=>contradiction
   |false=>exact .now
 show wpAny _ _ (aaD.«object.__setattr__» ⟨[.ref e,.str name s.toks,v],[]⟩) _ _ _
 simp only[osa_eq,refuse_eq]
 refine aam (aam (onHeap (ty s.heap he) rfl (aam (onHeap hm rfl ?_))))
 rw[xi _ f5]
 refine aai (aam (onHeap (ty s.heap he) rfl (aam (onHeap (aea X ha) rfl (aam (onHeap L3 rfl ?_))))))
 dsimp only
 unfold storeInOwnDict
 refine aam (aai ?_)
 rw[if_neg (by simp)]
 unfold ownDictForStores instanceDict
 refine aam (aam (ahu he ?_))
 rw[hc]
 refine aam (onHeap (ahg X f3) rfl ?_)
 simp only[f4,hd]
 simp only[afA,aaK,if_false,typeHasDict,ajD]
 rw[hf]
 dsimp only
 have hes:e≠s.heap.objs.size:=abY (abN he)
 have he₁:(s.heap.push ads).get? e=some ob:=aaF _ he
 have hfr:({ob with dict:=some s.heap.objs.size}:Obj).isFreed=false:=by
  have:=(Heap.get?_some_iff.mp he).2
  obtain⟨oc,od,odt,osl⟩:=ob
  cases odt<;>first |rfl |exact this
 refine aam (wpAny_alloc (aam (wpAny_update he₁ ?_)))
 have hgd:((s.heap.push ads).update e λo=>{o with dict:=some s.heap.objs.size}).get? s.heap.objs.size=some ads:=
  (adB _ _ (acm (acm hes))).trans (aaX _ rfl)
 have hge:=abO (λo:Obj=>{o with dict:=some s.heap.objs.size}) he₁ hfr
 have df:((s.heap.push ads).update e λo=>{o with dict:=some s.heap.objs.size}).Ns s.heap.objs.size (λ_=>none):=⟨_,#[],_,hgd,rfl,λe he=>absurd he (by simp),λ_=>rfl⟩
 show wpAny _ _ (pure (some s.heap.objs.size)) _ _ _
 refine aai ?_
 dsimp only
 show wpAny _ _ (storeInDict s.heap.objs.size (.str name s.toks) name v) _ _ _
 unfold storeInDict newKeyGuard
 refine aam (aai (aam (wpAny_nsSet1 (Heap.Ns1.of_empty df) λh' hn' hs=>?_)))
 have hw:=ahk name v Within.nil
 obtain⟨oD,esD,epD,hoD,hdD,hcD⟩:=hn'.count hw
 refine aam (agI hoD (by rw[hdD];exact akn (aah hcD (by simp only[abi,aiN,ahh];lia))) ?_)
 refine aai ?_
 refine aai (aai ?_)
 refine hq h' _ (λb o hb hbo=>?_) ⟨s.heap.objs.size,?_,acm hes,dP _,_,hn',hw⟩
 ·exact(hs.2 b (abY (abN hbo))).trans ((adB _ _ (acm hb)).trans (aaF _ hbo))
 ·exact(hs.2 e hes).trans hge
theorem Hq{name:Str}{v:Value}{cd:afv}{Q:Unit->Sh}(X:K.In s.heap)(he:s.heap.get? e=some ob)(hc:ob.cls=.ref c){dx:Addr}{ns:List Str}(hd:ob.dict=some dx)(hne:dx≠e)(hns:n9 s.heap dx ns)(hlen:ns.length<100)(hf:ob.data=.fields vs)
  (f1:aes K (.ref c) "__setattr__"=some (some (.builtin "object.__setattr__"))) (f2:agA K c name=some none) (f3:clsIn K c=some cd) (f4:cd.hasDict=true) (f5:kK cd.mro=kL) (f6:subIn K (.ref c) (.type "object")=some true)
  (hq:∀ h' tk,(∀ b o,b≠dx->s.heap.get? b=some o->h'.get? b=some o)->n9 h' dx (name::ns)->Q () {s with heap:=h',toks:=tk}):
  wpAny (model prog w) A (ajf (.ref e) name v) Q E s:=by
 have SF:=aej
 have ty:∀ h',h'.get? e=some ob->Looks (model prog w) h' (ahc (.ref e)) (.ref c):=λh' he=>(aeh (part:=some afD) he).andThen (by rw[hc];exact .now)
 unfold ajf adY
 refine aam (wpAny_mkText ?_)
 unfold ahb
 refine aam (aam (aam (onHeap (ty s.heap he) rfl (onHeap (aea X f1) rfl ?_))))
 dsimp only
 refine abT ?_
 rw[SF.slot.bind (.ref e)]
 refine aam (aai (aam (aeL (adm SF.slot.plain SF.entry ?_))))
 have isO:Looks (model prog w) s.heap (aeK (.ref e) (.type "object")) true:=(ty s.heap he).andThen (aeu X f6)
 refine @ahJ (model prog w) _ _ {s with toks:=s.toks+1} "object.__setattr__" "object" "__setattr__" (.ref e) [.str name s.toks,v] [] _ SF.kind SF.split isO (SF.args (.ref e) (.str name s.toks) v) ?_
 have hm:Looks (model prog w) s.heap (mroOf (.ref c)) cd.mro:=(ahg X f3).andThen .now
 obtain⟨attr,ha,hr⟩:=aaj.mp f2
 have L3:Looks (model prog w) s.heap (storeTaker? attr) none:=by
  cases attr with
  |none=>exact .now
  |some a=>
   obtain⟨b,hb,hb2⟩:=aaR.mp hr
   refine(looks_takesIn X hb).andThen ?_
   cases b with
   |true=>contradiction
   |false=>exact .now
 show wpAny _ _ (aaD.«object.__setattr__» ⟨[.ref e,.str name s.toks,v],[]⟩) _ _ _
 simp only[osa_eq,refuse_eq]
 refine aam (aam (onHeap (ty s.heap he) rfl (aam (onHeap hm rfl ?_))))
 rw[xi _ f5]
 refine aai (aam (onHeap (ty s.heap he) rfl (aam (onHeap (aea X ha) rfl (aam (onHeap L3 rfl ?_))))))
 dsimp only
 unfold storeInOwnDict
 refine aam (aai ?_)
 rw[if_neg (by simp)]
 unfold ownDictForStores instanceDict
 refine aam (aam (ahu he ?_))
 rw[hc]
 refine aam (onHeap (ahg X f3) rfl ?_)
 simp only[f4,hd]
 simp only[afA,aaK,if_false,typeHasDict,ajD]
 show wpAny _ _ (pure (some dx)) _ _ _
 refine aai ?_
 dsimp only
 show wpAny _ _ (storeInDict dx (.str name s.toks) name v) _ _ _
 unfold storeInDict newKeyGuard
 obtain⟨m0,hn0,hw0⟩:=hns
 refine aam (aai (aam (wpAny_nsSet1 hn0 λh' hn' hs=>?_)))
 obtain⟨oD,esD,epD,hoD,hdD,hcD⟩:=hn'.count (ahk name v hw0)
 refine aam (agI hoD (by rw[hdD];exact akn (aah hcD (by simp only[abi,ahh];lia))) ?_)
 refine aai ?_
 refine aai (aai ?_)
 exact hq h' _ (λb o hb hbo=>(hs.2 b hb).trans hbo) ⟨_,hn',ahk name v hw0⟩
theorem Hr{t0:Addr}{r:Value}{Q:Value->Sh}{oC:Value}{oD:Option Addr}{cd:afv}{oS:Array (Option Value)}(X:K.In s.heap)(hC:s.heap.get? c=some ⟨oC,oD,.cls cd,oS⟩)(he:s.heap.get? e=some (cu c t0))(f1:subIn K (.ref c) (.type "ValueError")=some true)
  (hq:∀ h' t2,(∀ b o,b≠e->s.heap.get? b=some o->h'.get? b=some o)->h'.get? e=some (cu c t2)->Q .none {s with heap:=h'}):
  wpAny (model prog w) A (aal (.builtin "ValueError.__init__") [.ref e,r]) Q E s:=by
 have F:=adX
 have ty:Looks (model prog w) s.heap (ahc (.ref e)) (.ref c):=(aeh (part:=some afD) he).andThen .now
 have kf:Looks (model prog w) s.heap (aeK (.ref e) (.type "ValueError")) true:=ty.andThen (aeu X f1)
 refine aeL (adm F.init.plain F.initEntry ?_)
 have hshort:=F.noStar
 simp only[abS,F.initKind,F.initSplit,F.initRow]
 refine aam (kf.here ?_)
 simp only[afA,aaK,if_false]
 repeat (first |with_reducible refine aeq hC ?_ |with_reducible refine ahu hC ?_ |wp_step)
 have hes:e≠s.heap.objs.size:=abY (abN he)
 have he₁:(s.heap.push (jF [r])).get? e=some (cu c t0):=aaF _ he
 refine hq _ s.heap.objs.size (λb o hb hbo=>?_) ?_
 ·exact(adB _ _ (acm hb)).trans (aaF _ hbo)
 ·exact abO _ he₁ rfl
end
end
section
open _root_.PySem.SeqAt
def xj(body:List Stmt):Prop:=∃ p1 p2 p3 p4 p5 p6 p7 p8 p9 p10:Pos,body=[.Expr (.Call (.Attribute (.Name "ValueError" p1) "__init__" p2) [.Name "self" p3,.Name "reason" p4] [] p5) p6,.Assign [.Attribute (.Name "self" p7) "reason" p8] (.Name "reason" p9) p10]∧(p2.endLine==p5.line)=true
noncomputable abbrev ml:List (Str×aax):=[("self",.local),("reason",.local),("ValueError",.globalImplicit)]
structure mq(K:Frag)(c fI:Addr):Prop where
 obj:iH λnm q N bs bm sn=>iH λsub ab col dd k0 k1=>cW λk2 k3 k5=>(gd (K.lookup c=some (aff nm q c N bs bm true sn sub ab col dd k0 k1 k2 k3 k5 "ValueError.__new__")) (bm.contains (.type "ValueError")=true) (bm.contains (.type "AttributeError")=false) (bm.contains (.type "NameError")=false) (kK (.ref c::bm)=kL))
 call:aiH K (.ref c) "__call__"=some (some (.builtin "type.__call__"))
 typ:instIn K (.ref c) (.type "type")=some true
 Hs:aju K (.ref c)=some (.type "type")
 keep:ahf K (.ref c)=true
 self:subIn K (.ref c) (.ref c)=some true
 top:subIn K (.ref c) (.type "object")=some true
 ve:subIn K (.ref c) (.type "ValueError")=some true
 be:subIn K (.ref c) (.type "BaseException")=some true
 Ht:aes K (.ref c) "__init__"=some (some (.ref fI))
 Hu:aju K (.ref fI)=some (.type "function")
 set:aes K (.ref c) "__setattr__"=some (some (.builtin "object.__setattr__"))
 reason:agA K c "reason"=some none
def oa(P:a9)(fI:Addr):Prop:=∃ f,cB (P.fn fI=some f) (xj f.body) (f.params=[("self":Str),("reason":Str)]) (f.scope.names=ml)
def mu(body:List Stmt):Prop:=iH λ(p1 p2 p3 p4 p5 p6:Pos)=>iH λ(p7 p8 p9 p10 p11 p12:Pos)=>bT λ(p13 p14:Pos)=>body=[.Expr (.Call (.Attribute (.Name "BoardError" p1) "__init__" p2) [.Name "self" p3,.JoinedStr [.Constant (.str "no power behind ") 0 p5,.FormattedValue (.Name "writes" p6) (-1) none p7,.Constant (.str " writes") 0 p8] p4] [] p9) p10,.Assign [.Attribute (.Name "self" p11) "writes" p12] (.Name "writes" p13) p14]∧(p2.endLine==p9.line)=true
noncomputable abbrev iW:List (Str×aax):=[("self",.local),("writes",.local),("BoardError",.globalImplicit)]
structure rD(P:a9)(K:Frag)(fC fB B:Addr):Prop where
 ex:mq K P.bO fC
 wr:agA K P.bO "writes"=some none
 base:P.G.lookup ("BoardError":Str)=some (V.ah B)
 Hv:aiH K (.ref B) "__getattribute__"=some (some (.builtin "type.__getattribute__"))
 rd:readsIn K B (.type "type")=true
 fd:aim K (.ref B) (.type "type") "__init__"=some (.val (.ref fB))
 hand:handedIn (.ref fB)=true
 keep:ahf K (.ref fB)=true
 Hw:oa P fB
 rE:∃ f,cB (P.fn fC=some f) (mu f.body) (f.params=[("self":Str),("writes":Str)]) (f.scope.names=iW)
structure kM(P:a9)(K:Frag):Prop where
 bO:cW λfC fB B=>rD P K fC fB B
 init:aim K (.type "ValueError") (.type "type") "__init__"=some (.val (.builtin "ValueError.__init__"))
 g:P.G.lookup ("ValueError":Str)=some (V.ty "ValueError")
def og(m:Am)(g:Gs)(st:St)(c e:Addr)(ns:List Str)(s:aaC)(fl:Flow)(s₂:aaC):Prop:=
 fl=.next∧gf λg2 h3 tk3 dx t2=>j8 (s₂={s with heap:=h3,toks:=tk3}) (Ext g g2) (Rel m g2 st h3) (bc m.c g2 st.H e) (h3.get? e=some {cu c t2 with dict:=some dx}) (n9 h3 dx ns) (dx≠e) (bc m.c g2 st.H dx)
section
variable {m:Am} {g:Gs} {st:St} {os:List (Addr×Obj)} {P:a9} {K:Frag} {mg mb:Str->Option Value} {C:Ct}
theorem Rel.rF{h h':Heap}{e:Addr}(R:Rel m g st h)(F:bc m.c g st.H e)(hk:∀ b o,b≠e->h.get? b=some o->h'.get? b=some o):Rel m g st h':=
 ⟨⟨λb o q=>hk b o (λz=>by simp only[z,F.2]at q;contradiction) (R.inv.base b o q),R.inv.above,R.inv.len,λx hx=>let ⟨o,q1,q2⟩:=R.inv.sat x hx;⟨o,hk _ _ (F.1 x hx) q1,q2⟩,R.inv.dp,R.inv.low⟩,R.loc⟩
theorem Hx{sc:Scope}(h:sc.names=ml):de sc "self"=.loc 0:=by unfold de;rw[h];rfl
theorem Hy{sc:Scope}(h:sc.names=ml):de sc "reason"=.loc 1:=by unfold de;rw[h];rfl
theorem Hz{sc:Scope}(h:sc.names=ml):de sc "ValueError"=.glob:=by unfold de;rw[h];rfl
theorem HD:ahc (.type "ValueError")=pure (.type "type"):=by kernel_rfl
theorem HE:handedIn (.builtin "ValueError.__init__")=true:=by decide+kernel
theorem HF:Manifest.isStub "ValueError"=false:=by decide+kernel
theorem xk{v:Expr}{p:Pos}{r:Value}{s:aaC}{Q:Flow->Sh}{E:Value->Sh}(h:Q .next s):wpAny (model m.c.prog m.c.w) m.A (afu v p r) Q E s:=by
 rcases wR p r v with e |e
 ·rw[e];exact aai h
 ·rw[e];exact wQ h
theorem xl{env:Env}{pos:Pos}{args:List Expr}(ha:args.all notStar=true)(hl:args.length<20):afN (args.length+([]:List afW).length) (ahK pos (ael args env)) (backToKw pos (keywordEach [] env))=true:=by
 rw[iP ha,iQ]
 unfold afN
 rw[all_plain]
 exact decide_eq_true (abV hl (by decide))
theorem xm{env:Env}{o:Expr}{apos pos:Pos}(h3:(apos.endLine==pos.line)=true):agn true o env apos pos=pure pos:=by
 unfold agn
 rw[h3]
 rfl
theorem gP(G:aB m P K mg mb){x:Str}{v:V}(e:name P m.sc x st=.ok v st)(p:Pos)(s:aaC)(Q:Value->Sh)(E:Value->Sh)(R:Rel m g st s.heap)(k:∀ r,m.VR g v r->Q r s):wpAny (model m.c.prog m.c.w) m.A (eval (.Name x p) m.env) Q E s:=
 have L:=ql (g:=g) G.PK.glob G.O e
 ajI (L.2 s Q E R k) L.1
theorem aB.fW(G:aB (m.x os) P K mg mb):aB m P K mg mb:=
 ⟨⟨⟨G.O.env.kind,G.O.env.loc,G.O.env.cx,G.O.env.qj,G.O.env.locals,G.O.env.globals,G.O.env.builtins,G.O.env.nd,G.O.env.nb⟩,G.O.frames,G.O.ff,G.O.fe,G.O.fk,G.O.dep,G.O.hV,G.O.df,G.O.fR⟩,G.PK.at (X:=m.c.X) (fs:=m.c.fs) (N:=m.c.N),G.sys⟩
theorem HG(G:aB m P K mg mb)(RT:kM P K){c fI:Addr}(EK:mq K c fI){body:List Stmt}(hb:xj body)(hn:m.sc.names=ml){e:Addr}{k:Nat}(hlo:st.lo=[some (.ah e),some (.str k),none]){t0:Addr}{s:aaC}{E:Value->Sh}
  (R:Rel (m.x [(e,cu c t0)]) g st s.heap):
  ao (model m.c.prog m.c.w) m.A (execs body m.env) (og m g st c e ["reason"] s) E s:=by
 obtain⟨p1,p2,p3,p4,p5,p6,p7,p8,p9,p10,rfl,hp⟩:=hb
 have F:bc m.c g st.H e:=R.jD.drop
 have R0:Rel m g st s.heap:=R.fW
 have he:s.heap.get? e=some (cu c t0):=R.eI
 obtain⟨nm,q,N,bs,bm,sn,sub,ab,col,dd',k0,k1,k2,k3,k5,hK,b1,b2,b3,b4⟩:=EK.obj
 have X:=G.PK.KX.keeps R0.inv.base
 have hC:s.heap.get? c=some (aff nm q c N bs bm true sn sub ab col dd' k0 k1 k2 k3 k5 "ValueError.__new__"):=X _ _ hK
 have hcls:clsIn K c=some {name:=nm,bases:=bs,mro:=.ref c::bm,ns:=N,qualname:=q,hasDict:=true,slotNames:=sn,subclasses:=sub,abstract:=ab,collection:=col,hasDel:=false}:=by unfold clsIn;rw[hK]
 have l1:name P m.sc "ValueError" st=.ok (.ty "ValueError") st:=by
  unfold name;rw[Hz hn];show aG (P.G.lookup ("ValueError":Str)) st=_;rw[RT.g];rfl
 have l2:name P m.sc "self" st=.ok (.ah e) st:=by
  unfold name;rw[Hx hn];show ae 0 st=_;unfold ae;rw[hlo];rfl
 have l3:name P m.sc "reason" st=.ok (.str k) st:=by
  unfold name;rw[Hy hn];show ae 1 st=_;unfold ae;rw[hlo];rfl
 simp only[afO,ail,rt G.O]
 refine az (cV ?_)
 simp only[aaK,if_false]
 rw[n7 _ _ rfl]
 refine az (aK ?_)
 dsimp only[cq,bZ]
 simp only[aaK,if_false]
 rw[aik,nY rfl]
 refine az (az (bt (gP G l1 p1 s _ _ R0 λr hr=>?_)))
 cases hr
 refine cV ?_
 unfold ajP
 rw[xl rfl (by simp)]
 refine aC (abT ?_)
 refine method_type (T:="ValueError") (v:=.builtin "ValueError.__init__") R0.inv.fr G.PK.KX ?_ ?_ ?_ ?_ ?_
 ·exact HD
 ·exact HF
 ·exact RT.init
 ·exact HE
 dsimp only
 rw[xm hp]
 refine az (aK ?_)
 rw[iP rfl,iQ]
 have hsp:∀ (s:aaC) (Q:Vs->Sh),Rel m g st s.heap->(∀ rk,m.VR g (.str k) rk->Q [.ref e,rk] s)->ao (model m.c.prog m.c.w) m.A (aeg ([(.Name "self" p3),(.Name "reason" p4)].map λe=>(false,eval e m.env))) Q E s:=by
  intro s Q R hq
  rw[aaH,aaH,ajE,aeg]
  refine az (bt (gP G l2 p3 s _ _ R λr hr=>?_))
  cases hr
  simp only[aaK,if_false]
  refine az (aK ?_)
  refine az (bN ?_)
  rw[aeg]
  refine az (bt (gP G l3 p4 s _ _ R λr hr=>?_))
  simp only[aaK,if_false]
  refine az (aK ?_)
  refine az (bN ?_)
  rw[aeg]
  exact aK (aK (aK (hq r hr)))
 refine lZ (lR _) (hsp {s with toks:=s.toks+1} _ R0 λrk hk=>⟨⟨.machine,.inr (.inl rfl),adp rfl⟩,?_⟩)
 show ao _ m.A (aal (.builtin "ValueError.__init__") [.ref e,rk]) _ _ _
 refine bt (Hr (s:={s with toks:=s.toks+1}) (K:=K) X hC he EK.ve λh1 t2 hk1 he1=>?_)
 have R1:Rel m g st h1:=R0.rF F hk1
 refine bt (xk ?_)
 dsimp only
 simp only[afO,ahe]
 refine az (cV ?_)
 have hsw:afe [.Attribute (.Name "self" p7) "reason" p8] (.Name "reason" p9) p10.line m.env=pure false:=rfl
 rw[hsw]
 refine az (aK ?_)
 dsimp only[cq,bZ]
 simp only[aaK,if_false]
 refine az (bt (gP G l3 p9 _ _ _ R1 λr hr=>?_))
 have hs2:acM [.Attribute (.Name "self" p7) "reason" p8] (.Name "reason" p9) m.env=pure none:=rfl
 rw[hs2]
 refine az (aK ?_)
 show ao _ m.A (acL (.Attribute (.Name "self" p7) "reason" p8) m.env r>>=λ_=>pure acY) _ _ _
 rw[afH]
 refine az (az (bN (bt (gP G l2 p7 _ _ _ R1 λr2 hr2=>?_))))
 cases hr2
 refine cV ?_
 refine az (bN (bt ?_))
 refine Ho (K:=K) (c:=c) (G.PK.KX.keeps R1.inv.base) he1 rfl rfl rfl EK.set EK.reason hcls rfl b4 EK.top λh3 tk3 hk3 he3=>?_
 obtain⟨dx,he3,hd1,hd2,hd3⟩:=he3
 refine bt (aek ?_)
 refine aK ?_
 rw[arm_execs_nil]
 exact aK ⟨rfl,g,h3,tk3,dx,t2,rfl,.refl g,R1.rF F hk3,F,he3,hd3,hd1,R1.inv.free hd2⟩
theorem HH(G:aB m P K mg mb)(T:fF P K mg)(hlv:m.lv=true){d:Nat}(hd:m.d=d+1){c fI:Addr}(EK:mq K c fI){f:Fn}(i3:P.fn fI=some f){v:V}{rk:Value}{x2:Str}{ns:List Str}{nk:List (Str×aax)}(i5:f.params=[("self":Str),x2])(i6:f.scope.names=nk)
  (hlo0:∀ e n,dG nk [(("self":Str),V.ah e),(x2,v)] n=[some (.ah e),some v,none]) (hce0:∀ e,eE nk [(("self":Str),V.ah e),(x2,v)]=[]) {s:aaC} {Q:Value->Sh} {E:Value->Sh} (R:Rel m g st s.heap) (vk:m.VR g v rk)
  (body:∀ (m':Am) (g':Gs) (st':St) (s':aaC) (e t0:Addr),aB m' P K mg mb->m'.d=d->m'.lv=true->m'.sc=f.scope->st'.lo=[some (.ah e),some v,none]->Rel (m'.x [(e,cu c t0)]) g' st' s'.heap->ao (model m'.c.prog m'.c.w) m'.A (execs f.body m'.env) (og m' g' st' c e ns s') (λ_ _=>False) s')
  (hQ:∀ h' tk e dx t2 g',Ext g g'->Rel m g' st h'->bc m.c g' st.H e->h'.get? e=some {cu c t2 with dict:=some dx}->Q (.ref e) {s with heap:=h',toks:=tk}):
  ao (model m.c.prog m.c.w) m.A (aal (.ref c) [rk]) Q E s:=by
 obtain⟨nm,q,N,bs,bm,sn,sub,ab,col,dd',k0,k1,k2,k3,k5,hK,b1,b2,b3,b4⟩:=EK.obj
 have i1:=EK.Ht
 have i2:=EK.Hu
 obtain⟨hh,gg,dd,tt,oo⟩:=s
 have X:=G.PK.KX.keeps R.inv.base
 have hC:hh.get? c=some (aff nm q c N bs bm true sn sub ab col dd' k0 k1 k2 k3 k5 "ValueError.__new__"):=X _ _ hK
 have hcls:clsIn K c=some {name:=nm,bases:=bs,mro:=.ref c::bm,ns:=N,qualname:=q,hasDict:=true,slotNames:=sn,subclasses:=sub,abstract:=ab,collection:=col,hasDel:=false}:=by unfold clsIn;rw[hK]
 have Y:Made (model m.c.prog m.c.w) hh c "ValueError.__new__":=
  ⟨⟨_,_,_,_,hC⟩,⟨_,_,λA Q E s kk q=>by
   obtain⟨h1,g1,d1,t1,o1⟩:=s
   exact wpAny_mroOf_exc (kk _ _ hC) q⟩,λA Q E s kk q=>by
   obtain⟨h1,g1,d1,t1,o1⟩:=s
   exact akm (kk _ _ hC) q,looks_specialIn X EK.call,looks_instIn X EK.typ⟩
 refine fP (wO Y (Hn hC b1 b2 b3 (by rw[ahh];simp) ?_))
 have kp:∀ b o,hh.get? b=some o->((hh.push (jF [rk])).push (cu c hh.objs.size)).get? b=some o:=λb o e=>aaF _ (aaF _ e)
 have he:((hh.push (jF [rk])).push (cu c hh.objs.size)).get? (hh.objs.size+1)=some (cu c hh.objs.size):=by heap_get
 have X2:=X.keeps kp
 have ty:Looks (model m.c.prog m.c.w) ((hh.push (jF [rk])).push (cu c hh.objs.size)) (ahc (.ref (hh.objs.size+1))) (.ref c):=(aeh (part:=some afD) he).andThen .now
 refine⟨hh.objs.size+1,.ref fI,rfl,ty.andThen (aeu X2 EK.self),ty.andThen (aea X2 i1),bind_fn X2 _ i2,?_⟩
 have R1:Rel (m.x [(hh.objs.size+1,cu c hh.objs.size)]) g st ((hh.push (jF [rk])).push (cu c hh.objs.size)):=
  R.x0.iS (ko (h:=hh) (by lia)) kp he
 have F:=T.fn m.c G.PK.KX fI f i3
 have F':jE (m.x [(hh.objs.size+1,cu c hh.objs.size)]).c fI f:=T.fn (m.x [(hh.objs.size+1,cu c hh.objs.size)]).c G.PK.KX fI f i3
 have hb:binds f [V.ah (hh.objs.size+1),v]=some [(("self":Str),V.ah (hh.objs.size+1)),(x2,v)]:=by
  unfold binds
  rw[i5]
  rfl
 refine fP (gc (rp (m:=m.x [(hh.objs.size+1,cu c hh.objs.size)]) G.x F' hd (xc (m:=m.x [(hh.objs.size+1,cu c hh.objs.size)]) G.x hlv c [rk]) hb (s:=⟨(hh.push (jF [rk])).push (cu c hh.objs.size),gg,dd,tt,oo⟩) R1 (.cons (.ah _) (.cons vk .nil))
  (Rr:=λr s'=>match r with | .ok (.ret v)=>(v=.none∧Q (.ref (hh.objs.size+1)) s') | .ok _=>False | .error e=>E e s') ?_) λr s' h=>h)
 intro env L g' h' tk Gf x0 keep hL Rf
 have hlo:dG f.scope.names [(("self":Str),V.ah (hh.objs.size+1)),(x2,v)] st.H.length=[some (.ah (hh.objs.size+1)),some v,none]:=by rw[i6];exact hlo0 _ _
 have hce:eE f.scope.names [(("self":Str),V.ah (hh.objs.size+1)),(x2,v)]=[]:=by rw[i6];exact hce0 _
 simp only[hlo,hce,aar]at Rf
 have Gd:aB (m.fn g.m ((mk m.A c [rk]).deeper env) f.scope env L d) P K mg mb:=aB.fW (os:=[(hh.objs.size+1,cu c hh.objs.size)]) Gf
 refine fH (body (m.fn g.m ((mk m.A c [rk]).deeper env) f.scope env L d) g' ⟨_,st.H⟩ ⟨h',gg,dd,tk,oo⟩ _ _ Gd rfl rfl rfl rfl Rf) (λfl s₂ h=>?_) λ_ _ h=>h.elim
 obtain⟨rfl,g2,h3,tk3,dx,t2,rfl,xg,R3,F3,d3, -, -, -⟩:=h
 have x:=x0.trans xg
 refine⟨rfl,?_⟩
 exact hQ h3 tk3 (hh.objs.size+1) dx t2 {g2 with m:=g.m} ⟨x.ρ⟩ (Rel.leave (st':=⟨[some (.ah (hh.objs.size+1)),some v,none],st.H⟩) R R3 x) (bc.leave F3) d3
end
end
section
open _root_.PySem.SeqAt
section
variable {m:Am} {g:Gs} {st:St} {os:List (Addr×Obj)} {P:a9} {K:Frag} {mg mb:Str->Option Value}
theorem HI{sc:Scope}(h:sc.names=iW):de sc "self"=.loc 0:=by unfold de;rw[h];rfl
theorem HJ{sc:Scope}(h:sc.names=iW):de sc "writes"=.loc 1:=by unfold de;rw[h];rfl
theorem HK{sc:Scope}(h:sc.names=iW):de sc "BoardError"=.glob:=by unfold de;rw[h];rfl
theorem HL{n:Int}(h:n.natAbs<2 ^ 64):((((Str.empty:Str)++("no power behind ":Str))++(ada (toString n)))++(" writes":Str)).length<=100:=by
 have e:=int_text_length_le (a:=n) (k:=64) (by decide) (by
  by_cases h0:n.natAbs=0
  ·rw[h0];decide
  ·exact(ahQ h0).mpr h)
 rw[aci,aci,aci,show(ada (toString n)).length=(toString n).length from PySem.ofString_length _]
 have e1:(Str.empty:Str).length=0:=rfl
 have e2:("no power behind ":Str).length=16:=by kernel_rfl
 have e3:(" writes":Str).length=7:=by kernel_rfl
 rw[e1,e2,e3]
 exact aah (adg (aec e _) 7) (by decide)
theorem HM(G:aB m P K mg mb){n:Int}(hs:n.natAbs<2 ^ 64){p4 p5 p6 p7 p8:Pos}(l3:name P m.sc "writes" st=.ok (.int n) st){s:aaC}{Q:Value->Sh}{E:Value->Sh}(R:Rel m g st s.heap)(hQ:∀ x t tk,Q (.str x t) {s with toks:=tk}):
  wpAny (model m.c.prog m.c.w) m.A (eval (.JoinedStr [.Constant (.str "no power behind ") 0 p5,.FormattedValue (.Name "writes" p6) (-1) none p7,.Constant (.str " writes") 0 p8] p4) m.env) Q E s:=by
 have hz:=HL hs
 have l1:∀ a b c d:Str,(a++b++c++d).length<=100->aO ((a++b).length<=adV) ((a++b++c).length<=adV) ((a++b++c++d).length<=adV):=λa b c d h=>by
  rw[aci,aci,aci]at h
  rw[ahh]
  exact⟨by rw[aci];lia,by rw[aci,aci];lia,by rw[aci,aci,aci];lia⟩
 obtain⟨z1,z2,z3⟩:=l1 _ _ _ _ hz
 refine PySem.wpAny_JoinedStr ?_
 refine ajv ⟨_,_,rfl,z1,?_⟩
 refine PySem.wpAny_FormattedValue_plain (gP (s:={s with toks:=s.toks+1}) G l3 p6 _ _ R λr hr=>?_)
 obtain⟨t,rfl⟩:=hr
 refine PySem.wpAny_formatField_int (by
  by_cases h0:n.natAbs=0
  ·rw[h0];decide
  ·exact akg ((ahQ h0).mpr hs) (by decide)) ⟨_,_,rfl,z2,?_⟩
 exact ajv ⟨_,_,rfl,z3,z3,hQ _ _ _⟩
theorem HN(G:aB m P K mg mb)(T:fF P K mg)(RT:kM P K){fC fB B:Addr}(CK:rD P K fC fB B){body:List Stmt}(hb:mu body)(hn:m.sc.names=iW)(hlv:m.lv=true){d:Nat}(hd:m.d=d+1){e:Addr}{n:Int}(hsm:n.natAbs<2 ^ 64)(hlo:st.lo=[some (.ah e),some (.int n),none]){t0:Addr}{s:aaC}
  (R:Rel (m.x [(e,cu P.bO t0)]) g st s.heap):
  ao (model m.c.prog m.c.w) m.A (execs body m.env) (og m g st P.bO e ["writes","reason"] s) (λ_ _=>False) s:=by
 obtain⟨p1,p2,p3,p4,p5,p6,p7,p8,p9,p10,p11,p12,p13,p14,rfl,hp⟩:=hb
 have EK:=CK.ex
 have R0:Rel m g st s.heap:=R.fW
 have l1:name P m.sc "BoardError" st=.ok (.ah B) st:=by
  unfold name;rw[HK hn];show aG (P.G.lookup ("BoardError":Str)) st=_;rw[CK.base];rfl
 have l2:name P m.sc "self" st=.ok (.ah e) st:=by
  unfold name;rw[HI hn];show ae 0 st=_;unfold ae;rw[hlo];rfl
 have l3:name P m.sc "writes" st=.ok (.int n) st:=by
  unfold name;rw[HJ hn];show ae 1 st=_;unfold ae;rw[hlo];rfl
 simp only[afO,ail,rt G.O]
 refine az (cV ?_)
 simp only[aaK,if_false]
 rw[n7 _ _ rfl]
 refine az (aK ?_)
 dsimp only[cq,bZ]
 simp only[aaK,if_false]
 rw[aik,nY rfl]
 refine az (az (bt (gP G l1 p1 s _ _ R0 λr hr=>?_)))
 cases hr
 refine cV ?_
 unfold ajP
 rw[xl rfl (by simp)]
 refine aC (abT ?_)
 refine method_of_cls R0.inv.fr G.PK.KX CK.Hv (cls_val R0.inv.fr G.PK.KX (mc:=.type "type") ?_ CK.rd CK.fd CK.hand ?_)
 ·have:=CK.rd
  simp only[readsIn,abD,beq_iff_eq]at this
  exact this.1.1.1.2
 dsimp only
 rw[xm hp]
 refine az (aK ?_)
 rw[iP rfl,iQ]
 have hsp:∀ (s:aaC) (Q:Vs->Sh),Rel m g st s.heap->(∀ x t tk,Q [.ref e,.str x t] {s with toks:=tk})->ao (model m.c.prog m.c.w) m.A (aeg ([(.Name "self" p3),(.JoinedStr [.Constant (.str "no power behind ") 0 p5,.FormattedValue (.Name "writes" p6) (-1) none p7,.Constant (.str " writes") 0 p8] p4)].map λe=>(false,eval e m.env))) Q (λ_ _=>False) s:=by
  intro s Q R hq
  rw[aaH,aaH,ajE,aeg]
  refine az (bt (gP G l2 p3 s _ _ R λr hr=>?_))
  cases hr
  simp only[aaK,if_false]
  refine az (aK ?_)
  refine az (bN ?_)
  rw[aeg]
  refine az (bt (HM G hsm l3 R λx t tk=>?_))
  simp only[aaK,if_false]
  refine az (aK ?_)
  refine az (bN ?_)
  rw[aeg]
  exact aK (aK (aK (hq x t tk)))
 refine lZ (lR _) (hsp {s with toks:=s.toks+1} _ R0 λx t tk=>⟨keeps_K CK.keep s.heap (G.PK.KX.keeps R0.inv.base),?_⟩)
 show ao _ m.A (aal (.ref fB) [.ref e,.str x t]) _ _ _
 obtain⟨f,i3,i4,i5,i6⟩:=CK.Hw
 have F':jE (m.x [(e,cu P.bO t0)]).c fB f:=T.fn (m.x [(e,cu P.bO t0)]).c G.PK.KX fB f i3
 have hbd:binds f [V.ah e,V.str eh]=some [(("self":Str),V.ah e),(("reason":Str),V.str eh)]:=by
  unfold binds
  rw[i5]
  rfl
 refine fP (gc (rp (m:=m.x [(e,cu P.bO t0)]) G.x F' hd (xb (m:=m.x [(e,cu P.bO t0)]) G.x hlv) hbd (s:={s with toks:=tk}) R (.cons (.ah _) (.cons (.eh x t) .nil))
  (Rr:=λr s'=>match r with | .ok (.ret v)=>og m g st P.bO e ["reason"] {s with toks:=tk} .next s'∧v=.none | .ok _=>False | .error e=>False) ?_) λr s' h=>?_)
 ·intro env L g' h' tk' Gf x0 keep hL Rf
  have hlo':dG f.scope.names [(("self":Str),V.ah e),(("reason":Str),V.str eh)] st.H.length=[some (.ah e),some (.str eh),none]:=by rw[i6];rfl
  have hce:eE f.scope.names [(("self":Str),V.ah e),(("reason":Str),V.str eh)]=[]:=by rw[i6];rfl
  simp only[hlo',hce,aar]at Rf
  have Gd:aB (m.fn g.m (m.A.deeper env) f.scope env L d) P K mg mb:=aB.fW (os:=[(e,cu P.bO t0)]) Gf
  refine fH (HG (m:=m.fn g.m (m.A.deeper env) f.scope env L d) (st:=⟨_,st.H⟩) (s:=⟨h',s.gens,s.drawn,tk',s.os⟩) (E:=λ_ _=>False) Gd RT EK i4 i6 rfl Rf) (λfl s₂ h=>?_) λ_ _ h=>h.elim
  obtain⟨rfl,g2,h3,tk3,dx,t2,rfl,xg,R3,F3,d3,dn,dne,Fd⟩:=h
  have x:=x0.trans xg
  exact⟨⟨rfl,{g2 with m:=g.m},h3,tk3,dx,t2,rfl,⟨x.ρ⟩,Rel.leave (st':=⟨[some (.ah e),some (.str eh),none],st.H⟩) R0 R3 x,bc.leave F3,d3,dn,dne,bc.leave Fd⟩,rfl⟩
 ·cases r with
  |error e=>exact h.elim
  |ok fl=>cases fl with
   |ret v=>
    obtain⟨⟨-,g2,h3,tk3,dx,t2,rfl,xg,R3,F3,d3,dn,dne,Fd⟩,rfl⟩:=h
    show ao _ m.A (afu _ p10 _) _ _ _
    obtain⟨nm,q,N,bs,bm,sn,sub,ab,col,dd',k0,k1,k2,k3,k5,hK,b1,b2,b3,b4⟩:=EK.obj
    have hcls:clsIn K P.bO=some {name:=nm,bases:=bs,mro:=.ref P.bO::bm,ns:=N,qualname:=q,hasDict:=true,slotNames:=sn,subclasses:=sub,abstract:=ab,collection:=col,hasDel:=false}:=by unfold clsIn;rw[hK]
    have l2':name P m.sc "self" st=.ok (.ah e) st:=l2
    refine bt (xk ?_)
    dsimp only
    simp only[ahe]
    refine az (cV ?_)
    have hsw:afe [.Attribute (.Name "self" p11) "writes" p12] (.Name "writes" p13) p14.line m.env=pure false:=rfl
    rw[hsw]
    refine az (aK ?_)
    dsimp only[cq,bZ]
    simp only[aaK,if_false]
    refine az (bt (gP (g:=g2) G l3 p13 _ _ _ R3 λr hr=>?_))
    have hs2:acM [.Attribute (.Name "self" p11) "writes" p12] (.Name "writes" p13) m.env=pure none:=rfl
    rw[hs2]
    refine az (aK ?_)
    show ao _ m.A (acL (.Attribute (.Name "self" p11) "writes" p12) m.env r>>=λ_=>pure acY) _ _ _
    rw[afH]
    refine az (az (bN (bt (gP (g:=g2) G l2 p11 _ _ _ R3 λr2 hr2=>?_))))
    cases hr2
    refine cV ?_
    refine az (bN (bt ?_))
    refine Hq (K:=K) (c:=P.bO) (G.PK.KX.keeps R3.inv.base) d3 rfl rfl dne dn (by decide) rfl EK.set CK.wr hcls rfl b4 EK.top λh4 tk4 hk4 hdn=>?_
    refine bt (aek ?_)
    refine aK ?_
    rw[arm_execs_nil]
    exact aK ⟨rfl,g2,h4,tk4,dx,t2,rfl,xg,R3.rF Fd hk4,F3,hk4 _ _ (acm dne) d3,hdn,dne,Fd⟩
   |_=>exact h.elim
theorem HO(G:aB m P K mg mb)(T:fF P K mg)(RT:kM P K)(hlv:m.lv=true){d:Nat}(hd:m.d=d+2){fC fB B:Addr}(CK:rD P K fC fB B){n:Int}(hsm:n.natAbs<2 ^ 64){rk:Value}{s:aaC}{Q:Value->Sh}{E:Value->Sh}(R:Rel m g st s.heap)(vk:m.VR g (.int n) rk)
  (hQ:∀ h' tk e dx t2 g',Ext g g'->Rel m g' st h'->bc m.c g' st.H e->h'.get? e=some {cu P.bO t2 with dict:=some dx}->Q (.ref e) {s with heap:=h',toks:=tk}):
  ao (model m.c.prog m.c.w) m.A (aal (.ref P.bO) [rk]) Q E s:=by
 obtain⟨f,i3,i4,i5,i6⟩:=CK.rE
 exact HH G T hlv (d:=d+1) hd CK.ex i3 i5 i6 (λ_ _=>rfl) (λ_=>rfl) R vk (λm' g' st' s' e t0 G' hd' hlv' hsc hlo R'=>HN G' T RT CK i4 (by rw[hsc,i6]) hlv' hd' hsm hlo R') hQ
end
end
section
open _root_.PySem.SeqAt
section
variable {m:Am} {g:Gs} {st:St} {P:a9} {K:Frag} {mg mb:Str->Option Value} {C:Ct}
theorem HP(G:aB m P K mg mb){c fI:Addr}(EK:mq K c fI)(hv:m.A.handled=none){s:aaC}{E:Value->Sh}{Q:Flow->Sh}(R:Rel m g st s.heap){e:Addr}{dx t2:Addr}(he:s.heap.get? e=some {cu c t2 with dict:=some dx})
  (hE:E (.ref e) s):ao (model m.c.prog m.c.w) m.A (aiI (.ref e) "exceptions must derive from BaseException") (λe' s'=>ao (model m.c.prog m.c.w) m.A (do
   let e'<-if<-isType (.ref e)then abb [e'] (raisedFor (.ref e) e')else ahv e'
   afs e' none
   (raiseNew e':Sem Flow)) Q E s') E s:=by
 have X:=G.PK.KX.keeps R.inv.base
 have ty:Looks (model m.c.prog m.c.w) s.heap (ahc (.ref e)) (.ref c):=(aeh (part:=some afD) he).andThen .now
 have nt:Looks (model m.c.prog m.c.w) s.heap (isType (.ref e)) false:=(aeh (part:=some afD) he).andThen .now
 have ix:Looks (model m.c.prog m.c.w) s.heap (ahN (.ref e)) false:=by
  unfold ahN
  exact nt.andThen .now
 have ib:Looks (model m.c.prog m.c.w) s.heap (aeK (.ref e) (.type "BaseException")) true:=ty.andThen (aeu X EK.be)
 have ex:Looks (model m.c.prog m.c.w) s.heap (aiI (.ref e) "exceptions must derive from BaseException") (.ref e):=by
  unfold aiI
  refine ix.andThen ?_
  simp only[aaK,if_false]
  refine ib.andThen ?_
  exact .now
 refine bt (ex.here ?_)
 have ri:Looks (model m.c.prog m.c.w) s.heap (ahv (.ref e)) (.ref e):=by
  unfold ahv
  refine ty.andThen ((looks_typeIn X EK.Hs).andThen ?_)
  exact .now
 refine aC (nt.here ?_)
 simp only[aaK,if_false]
 refine aC (ri.here ?_)
 refine aC ?_
 unfold afs
 refine wpAny_bind (acz he rfl rfl ?_)
 refine aai ?_
 exact bt (wpAny_raiseNew_none hv hE)
theorem HQ{α β:Type}{ev:Expr->M V}(H:bf m ev){pos:Pos}{args:List Expr}{rf:Value}{K':Value->Sem β}{F:List V->M α}{rel:Gs->α->β->Prop}(ha:args.all notStar=true)
  (h:∀ as st₁ g₁ ras s Q E,m.aA g₁ as ras->Rel m g₁ st₁ s.heap->bW m g₁ (F as st₁) rel Q E s->Keeps (model m.c.prog m.c.w) s.heap rf∧ao (model m.c.prog m.c.w) m.A (aal rf ras) (λv s'=>ao (model m.c.prog m.c.w) m.A (K' v) Q E s') E s):Np m g st (aij pos rf [] (ahK pos (ael args m.env)) []>>=K') ((eQ ev args>>=F) st) rel:=by
 intro s Q E R Pp
 rw[iP ha,iQ]
 refine az (lZ (lR args) ((qG (λe=>H.snd e) args g st).use R (λas st₁ e1 g₁ h₁ tk1 ras x₁ R₁ va=>?_) (λk st₁ e1 g₁ h₁ tk1 e x₁ R₁ X=>?_) λe1=>?_))
 ·rw[cb e1]at Pp
  exact h as st₁ g₁ ras {s with heap:=h₁,toks:=tk1} Q E va R₁ (Pp.shift x₁)
 ·rw[fV e1]at Pp;exact Pp g₁ h₁ tk1 e x₁ R₁ X
 ·rw[eG e1]at Pp;exact Pp.elim
theorem HR{β:Type}{Z:Prop}{c:Addr}{as:List V}{rel:Gs->Fl->β->Prop}{Q:β->Sh}{E:Value->Sh}{s:aaC}
  (h':∀ n:Int,as=[.int n]->m.lv=true->n.natAbs<2 ^ 64->c=P.bO->bW m g (.exc c st:Lite.R Fl) rel Q E s->Z):bW m g (b8 P m.lv c as st) rel Q E s->Z:=by
 refine gq (fD _) (Pr:=λr=>bW m g r rel Q E s->Z) (λP=>P.elim) λ_ h0=>?_
 obtain⟨hc,h1⟩:=aab.mp (hU h0)
 cases as with
 |nil=>exactλP=>P.elim
 |cons a r=>cases r with
  |cons _ _=>exactλP=>P.elim
  |nil=>
   exact gM (Pr:=λr=>bW m g r rel Q E s->Z) (λP=>P.elim) λk hk=>gq (fD _) (Pr:=λr=>bW m g r rel Q E s->Z) (λP=>P.elim) λ_ h2 Pp=>
    h' k (congrArg (λx=>[x]) (g9 hk)) h1 (of_decide_eq_true (hU h2)) (eq_of_beq hc) Pp
theorem HS{d:Nat}(T:fF P K mg)(RT:kM P K):mi P K mg mb C (d+2):=by
 intro m G hd hm H x np args cp p g st
 rw[arm_exec_Raise]
 refine Np.aL λho=>Np.standAt ?_
 show Np m g st ((eval (.Call (.Name x np) args [] cp) m.env>>=λv=>acr p>>=λ_=>pure v)>>=λxv=>pure none>>=λ(cv:Option Value)=>_) _ _
 rw[aet,M.bind_assoc]
 refine dA (dA (Np.bind (uV G.PK.glob G.O x np g st).np λv st₁ g₁ rf e1 x₁ vf=>gM (Pr:=λr=>Np m g₁ st₁ _ r (aT m)) Np.no λc hc=>?_))
 rw[uL hc]at vf
 rw[show rf=.ref c from vf]
 refine HQ H (aab.mp ho).1 λas st₁ g₁ ras s Q E va R=>HR λn hk hlv hn hc Pp=>?_
 rw[hk]at va
 obtain⟨rk,_,rfl,vk,va⟩:=va
 rw[show _=[] from va]
 subst hc
 obtain⟨fC,fB,B,CK⟩:=RT.bO
 refine⟨keeps_K CK.ex.keep s.heap (G.PK.KX.keeps R.inv.base),HO G T RT hlv (d:=d) hd CK hn R vk λh₂ tk2 e dx t2 g₂ x₂ R₂ F₂ he=>?_⟩
 exact az (cV (aK (az (aK (az (bN (HP (s:={s with heap:=h₂,toks:=tk2}) G CK.ex (G.O.df hlv) R₂ he (Pp g₂ h₂ tk2 e x₂ R₂ ⟨none,.inl rfl,_,_,_,⟨F₂,he,rfl,rfl,rfl⟩,rfl⟩))))))))
end
end
section
open _root_.PySem.SeqAt
section
variable {P:a9} {K:Frag} {mg mb:Str->Option Value}
noncomputable abbrev g0:Gs:={ρ:=[],m:=λ_=>none}
theorem HT{c:Cx}{h h':Heap}{m':Str->Option Value}(hc:c.b₀=h)(hk:∀ b o,h.get? b=some o->h'.get? b=some o)(hns:h'.Ns h.objs.size m'):Inv (c.at [] [] h.objs.size) {g0 with m:=m'} [] h':=by
 subst hc
 obtain⟨o,es,ep,e1,e2,e3,e4⟩:=hns
 exact⟨hk,aaZ _,rfl,aas.mpr ⟨⟨o,e1,es,ep,e2,e3,e4⟩,λ_ q=>nomatch q⟩,aaI.mpr ⟨λq=>(nomatch q),abC⟩,(aas (p:=λx:Cell=>c.b₀.get? x.1=none)).mpr ⟨ko (aaZ _),λ_ q=>nomatch q⟩⟩
theorem HU{c:Cx}{h:Heap}{m':Str->Option Value}{a:Addr}(hc:c.b₀=h)(ha:h.objs.size+1<=a):bc (c.at [] [] h.objs.size) {g0 with m:=m'} [] a:=by
 subst hc
 exact⟨(aas (p:=λx:Cell=>x.1≠a)).mpr ⟨abY ha,λ_ q=>nomatch q⟩,ko (aev ha)⟩
theorem HV{n:Nat}{a:Addr}{f:Fn}{args:List V}{v:V}{H H':Hp}(hf:P.fn a=some f)(hr:run P (n+1) (.ah a) args H=.ok v H'):∃ b,binds f args=some b∧iM (bH (ex P (run P n) cY true f.scope) f.body ⟨dG f.scope.names b H.length,H++eE f.scope.names b⟩)=.ok v H':=by
 replace hr:runC P (run P n) a args H=.ok v H':=hr
 unfold runC at hr
 rw[hf]at hr
 replace hr:lL (binds f args) (λb=>iM (bH (ex P (run P n) cY true f.scope) f.body ⟨dG f.scope.names b H.length,H++eE f.scope.names b⟩))=.ok v H':=hr
 cases hb:binds f args with
 |none=>rw[hb]at hr;exact CR.noConfusion hr
 |some b=>rw[hb]at hr;exact⟨b,rfl,hr⟩
noncomputable def HW:CR->V
 | .ok v _=>v
 |_=>.none
theorem HY{r:R Fl}{v:V}{H:Hp}(h:iM r=.ok v H):∃ fl s,r=.ok fl s∧n6 fl=v:=by
 cases r with
 |ok fl s=>exact⟨fl,s,rfl,by cases fl<;>exact congrArg HW h⟩
 |exc _ _=>exact CR.noConfusion h
 |no=>exact CR.noConfusion h
noncomputable def rG {α:Type}:R α->Option α
 | .ok v _=>some v
 |_=>none
theorem HZ{m:Am}{g:Gs}{a:Fl}{b:Flow}(q:aT m g a b):m.VR g (n6 a) (n5 b):=by
 cases a with
 |next=>rw[show b=.next from q];exact VR.none
 |ret v=>obtain⟨r,rfl,hv⟩:=q;exact hv
theorem H0{c:Cx}{s:aaC}(hc:c.b₀=s.heap)(hX:c.X=[])(hfs:c.fs=[])
  (PK:cO c P K mg mb) (sys:∃ o,c.b₀.get? acw=some o) (XK:ij P K) (T:fF P K mg) (RT:kM P K) {n:Nat} (hd:302+4*(n+3)<adq) (hu:7+24*(n+3)<cLine)
  {a:Addr} {f:Fn} (hf:P.fn a=some f) {args:List V} {rs:Vs} (va:aA c g0 args rs)
  {v:V} {H':Hp} (hr:run P (n+1) (.ah a) args []=.ok v H') {Q:Value->Sh} {E:Value->Sh}
  (hQ:∀ h' tk r g',(∀ b o,c.b₀.get? b=some o->h'.get? b=some o)->VR c g' v r->Q r {s with heap:=h',toks:=tk}):
  ao (model c.prog c.w) callerA (aal (.ref a) rs) Q E s:=by
 obtain⟨b,hb,hr⟩:=HV hf hr
 obtain⟨fl,st2,e,ev⟩:=HY hr
 have keepb:∀ b o,c.b₀.get? b=some o->s.heap.get? b=some o:=λb o e=>hc▸e
 refine fP (gc (wN (c:=c) (X:=[]) (fs:=[]) (fr:=[]) (H:=[]) (g:=g0) PK sys (T.fn c PK.KX a f hf) (d:=n+2) (Rr:=λr s'=>match r with | .ok (.ret v)=>Q v s' | .ok _=>False | .error e=>E e s') rfl rfl rfl hd hu (λe h=>nomatch h) hb keepb va
  (λm' h' hk hns=>HT hc hk hns) (λm' a' ha=>HU hc ha) λenv g' h' tk Gf x0 hk Rf=>?_) λr s' h=>h)
 have RZ:∀ n,mi P K mg mb (run P n) (n+2):=λn=>HS T RT
 have HC:∀ m',aB m' P K mg mb->m'.d=n+2->ic m' P (run P n):=λm' G' h=>xd G' T (Hl XK T RZ n m' G' h)
 have EX:=w9 XK HC (RZ n) cY _ Gf rfl rfl
 refine(ie (ex:=ex P (run P n) cY true f.scope) EX f.body g' _).use (s:={s with heap:=h',toks:=tk}) Rf (λfl' st' e2 g₂ h₂ tk2 rfl' x₂ R₂ q₂=>?_) (λk st' e2 g₂ h₂ tk2 e' x₂ R₂ X=>?_) λe2=>?_
 ·have ef:fl'=fl:=aae.inj (congrArg rG (e2.symm.trans e))
  rw[<-ev,<-ef]at hQ
  exact hQ h₂ tk2 _ g₂ R₂.inv.base (HZ q₂)
 ·exact ai (congrArg rG (e2.symm.trans e))
 ·exact ai (congrArg rG (e2.symm.trans e))
end
end
section
open _root_.PySem.SeqAt
noncomputable def mv (v:Value):Option (Addr):=adS (motive:=λ_=>Option (Addr)) v none none none (λ_=>none) (λ_ _=>none) (λ_ _=>none) (λ_ _=>none) (λ_ _=>none) (λ_=>none) (λ_=>none) some
noncomputable def vStr (v:Value):Option (Str):=adS (motive:=λ_=>Option (Str)) v none none none (λ_=>none) (λ_ _=>none) (λ_ _=>none) (λx t=>some x) (λ_ _=>none) (λ_=>none) (λ_=>none) (λ_=>none)
noncomputable def rH (v:Data):Option (Array Value):=adl (motive:=λ_=>Option (Array Value)) v none (λ_=>none) (λ_ _=>none) (λ_ _=>none) (λ_ _ _=>none) (λ_ _=>none) (λ_=>none) (λ_=>none) (λ_=>none) some none
noncomputable def oh (v:Data):Option (Array Value×Nat):=adl (motive:=λ_=>Option (Array Value×Nat)) v none (λ_=>none) (λa n=>some (a,n)) (λ_ _=>none) (λ_ _ _=>none) (λ_ _=>none) (λ_=>none) (λ_=>none) (λ_=>none) (λ_=>none) none
noncomputable def rI (v:Data):Option (aeB):=adl (motive:=λ_=>Option (aeB)) v none (λ_=>none) (λ_ _=>none) (λ_ _=>none) (λ_ _ _=>none) (λ_ _=>none) (λ_=>none) some (λ_=>none) (λ_=>none) none
noncomputable def rJ (v:agq):Option (List Stmt):=ahp (motive:=λ_=>Option (List Stmt)) v some (λ_=>none)
theorem rK{x:Addr}(v:Value):mv v=some x->v=.ref x:=adS (motive:=λv=>mv v=some x->v=.ref x) v ai ai ai (λx0=>ai) (λx0 x1=>ai) (λx0 x1=>ai) (λx0 x1=>ai) (λx0 x1=>ai) (λx0=>ai) (λx0=>ai) (λa=>λh=>congrArg adW (aae.inj h))
theorem H3{x:Str}(v:Value):vStr v=some x->∃ t,v=.str x t:=adS (motive:=λv=>vStr v=some x->∃ t,v=.str x t) v ai ai ai (λx0=>ai) (λx0 x1=>ai) (λx0 x1=>ai) (λa t=>λh=>⟨t,congrArg (Value.str · t) (aae.inj h)⟩) (λx0 x1=>ai) (λx0=>ai) (λx0=>ai) (λx0=>ai)
theorem H4{x:Array Value}(v:Data):rH v=some x->v=.fields x:=adl (motive:=λv=>rH v=some x->v=.fields x) v ai (λx0=>ai) (λx0 x1=>ai) (λx0 x1=>ai) (λx0 x1 x2=>ai) (λx0 x1=>ai) (λx0=>ai) (λx0=>ai) (λx0=>ai) (λa=>λh=>congrArg Data.fields (aae.inj h)) ai
theorem xn{x:Array Value×Nat}(v:Data):oh v=some x->v=.seq x.1 x.2:=adl (motive:=λv=>oh v=some x->v=.seq x.1 x.2) v ai (λx0=>ai) (λa n=>λh=>congrArg (λp:Array Value×Nat=>Data.seq p.1 p.2) (aae.inj h)) (λx0 x1=>ai) (λx0 x1 x2=>ai) (λx0 x1=>ai) (λx0=>ai) (λx0=>ai) (λx0=>ai) (λx0=>ai) ai
theorem H5{x:aeB}(v:Data):rI v=some x->v=.func x:=adl (motive:=λv=>rI v=some x->v=.func x) v ai (λx0=>ai) (λx0 x1=>ai) (λx0 x1=>ai) (λx0 x1 x2=>ai) (λx0 x1=>ai) (λx0=>ai) (λa=>λh=>congrArg Data.func (aae.inj h)) (λx0=>ai) (λx0=>ai) ai
theorem H6{x:List Stmt}(v:agq):rJ v=some x->v=.stmts x:=ahp (motive:=λv=>rJ v=some x->v=.stmts x) v (λa=>λh=>congrArg agq.stmts (aae.inj h)) (λx0=>ai)
theorem fh{α β:Type}{o:Option α}{f:α->Option β}{b:β}(h:o.bind f=some b):∃ a,o=some a∧f a=some b:=aaj.mp h
def dfltOk(K:Frag)(dv:Value):Bool:=dv==.none||((mv dv).bind λt=>(K.lookup t).bind λo=>oh o.data).isSome
def rL(K:Frag)(dv:Value):Bool:=((mv dv).bind λt=>(K.lookup t).bind λo=>oh o.data).any λp=>p.1==#[abo]
def codeIn(K:Frag)(cd:Value)(q:Str):Bool:=((mv cd).bind λc=>(K.lookup c).bind λo=>(rH o.data).bind λvs=>(vs[1]? :Option Value).bind vStr)==some q
noncomputable def xo (p:Arguments):Bool:=p.posonlyargs.isEmpty&&p.vararg.isNone&&p.kwonlyargs.isEmpty&&p.kwarg.isNone
theorem H7{p:Arguments}(h:xo p=true):p=⟨[],p.args,none,[],p.kw_defaults,none,p.defaults⟩:=by
 obtain⟨h,h4⟩:=aab.mp h
 obtain⟨h,h3⟩:=aab.mp h
 obtain⟨h1,h2⟩:=aab.mp h
 obtain⟨a1,a2,a3,a4,a5,a6,a7⟩:=p
 rw[show a1=[] from isEmpty_nil h1,show a3=none from isNone_none h2,show a4=[] from isEmpty_nil h3,show a6=none from isNone_none h4]
def H8(K:Frag)(f:Fn)(fd:aeB):Bool:=
 g7 fd.scope&&(f.scope.names.all λq=>q.2 != .free)&&fd.closure.isEmpty&&fd.globals==acQ&&fd.builtins==afC&&codeIn K fd.code fd.qualname&&xo fd.params&&decide f.params.Nodup&&
  (f.params.all λx=>f.scope.names.lookup x==some .local||f.scope.names.lookup x==some .cell)&&dfltOk K fd.defaults&&(!f.lz||rL K fd.defaults)
def xp(K:Frag)(fd:aeB)(body:List Stmt):Fn:=⟨fd.params.args.map (·.arg),rL K fd.defaults,fd.scope,body⟩
noncomputable def xq (b:Bool) (f:Fn):Option Fn:=if b then some f else none
theorem H9{b:Bool}{f g:Fn}(h:xq b f=some g):b=true∧f=g:=by
 cases b with
 |true=>exact⟨rfl,aae.inj h⟩
 |false=>exact ai h
def fnIn(K:Frag)(a:Addr):Option Fn:=(K.lookup a).bind λo=>(rI o.data).bind λfd=>(rJ fd.body).bind λbody=>xq (H8 K (xp K fd body) fd) (xp K fd body)
section
variable {P:a9} {K:Frag} {mg mb:Str->Option Value}
theorem Ia{h:Heap}(X:K.In h){dv:Value}(e:dfltOk K dv=true):DfltIs h dv:=by
 rcases abq.mp e with e |e
 ·exact .inl (eq_of_beq e)
 ·obtain⟨p,e⟩:=adj.mp e
  obtain⟨t,e1,e⟩:=fh e
  obtain⟨o,e2,e3⟩:=fh e
  exact .inr ⟨t,o,p.1,p.2,rK dv e1,X _ _ e2,xn _ e3⟩
theorem Ib{h:Heap}(X:K.In h){dv:Value}(e:rL K dv=true):q9 h dv:=by
 obtain⟨p,e1,e2⟩:=(ado _ _).mp e
 obtain⟨t,h1,e1⟩:=fh e1
 obtain⟨o,h2,h3⟩:=fh e1
 exact⟨t,o,p.2,rK dv h1,X _ _ h2,eq_of_beq e2▸xn _ h3⟩
theorem Ic{h:Heap}(X:K.In h){cd:Value}{q:Str}(e:codeIn K cd q=true):h.CodeRec cd q:=by
 obtain⟨c,e1,e⟩:=fh (eq_of_beq e)
 obtain⟨o,e2,e⟩:=fh e
 obtain⟨vs,e3,e⟩:=fh e
 obtain⟨v,e4,e⟩:=fh e
 obtain⟨t,rfl⟩:=H3 v e
 exact⟨c,o,vs,t,rK cd e1,X _ _ e2,H4 _ e3,e4⟩
theorem Ie{a:Addr}{f:Fn}(h:fnIn K a=some f){c:Cx}(X:K.In c.b₀):jE c a f:=by
 obtain⟨o,hk,h⟩:=fh h
 obtain⟨fd,hf,h⟩:=fh h
 obtain⟨body,hbody,h⟩:=fh h
 obtain⟨hc,rfl⟩:=H9 h
 obtain⟨hc,c12⟩:=aab.mp hc
 obtain⟨hc,c11⟩:=aab.mp hc
 obtain⟨hc,c9⟩:=aab.mp hc
 obtain⟨hc,c8⟩:=aab.mp hc
 obtain⟨hc,c7⟩:=aab.mp hc
 obtain⟨hc,c6⟩:=aab.mp hc
 obtain⟨hc,c5⟩:=aab.mp hc
 obtain⟨hc,c4⟩:=aab.mp hc
 obtain⟨hc,c3⟩:=aab.mp hc
 obtain⟨c1,c2⟩:=aab.mp hc
 exact⟨o,fd,fd.params.args,fd.params.kw_defaults,fd.params.defaults,X _ _ hk,H5 _ hf,rfl,c1,λq hq e=>bne_iff_ne.mp (aaV.mp c2 q hq) e,aiy.mp c3,eq_of_beq c4,eq_of_beq c5,Ic X c6,H6 _ hbody,H7 c7,rfl,of_decide_eq_true c8,⟨Ia X c11,λe=>Ib X ((abq.mp c12).resolve_left λz=>aaa ((gN z).symm.trans e))⟩,
  λx hx=>(abq.mp (aaV.mp c9 x hx)).imp eq_of_beq eq_of_beq⟩
end
end
noncomputable def jG (l:List (Code×Pos)):Bool:=l.any λx=>codec x.1
theorem xr{l:List (Code×Pos)}(h:jG l=false):m5 l:=λx hx=>by
 unfold jG at h
 rw[afI]at h
 simpa using h x hx
noncomputable def gr {α:Type} (a:α) (t:Sem α):Sem α:=.stack λl=>if jG l then .pure a else t
theorem Ig{α:Type}{M:Model}{A:aaY}{a:α}{t:Sem α}{Q:α->Sh}{E:Value->Sh}{s:aaC}(h1:Q a s)(h2:ao M A t Q E s):wpAny M A (gr a t) Q E s:=λΓ p hΓ=>by
 unfold gr
 rw[ahq]
 cases e:jG ((Γ.code,p)::Γ.below)with
 |true=>rw[if_pos rfl,ahU];exact h1
 |false=>
  rw[if_neg abe]
  have:=xr e
  exact h2 Γ p hΓ ⟨this _ (.head _),λx hx=>this x (.tail _ hx)⟩
theorem Ih{α:Type}{M:Model}{A:aaY}{a:α}{t:Sem α}{Q:α->Sh}{E:Value->Sh}{s:aaC}(h:wpAny M A (gr a t) Q E s):ao M A t Q E s:=λΓ p hΓ n=>by
 have h:=h Γ p hΓ
 unfold gr at h
 rw[ahq]at h
 have e:jG ((Γ.code,p)::Γ.below)=false:=by
  unfold jG
  rw[afI]
  intro x hx
  cases hx with
  |head=>simp[n.1]
  |tail _ hx=>simp[n.2 x hx]
 rw[e,if_neg abe]at h
 exact h
theorem Ii{prog:acI}{w:World}{a:Fin}{t:Sem Fin}{n:Nat}{s s':aaC}{o:Outcome}(hz:s.asleep)
  (h:schedN (denote table) prog w n (.single s ⟨gr a t,.builtin "claim.caller" {},default,[]⟩)=.halted o s'):
  ∃ n,schedN (denote table) prog w n (.single s ⟨t,.builtin "claim.caller" {},default,[]⟩)=.halted o s':=by
 cases n with
 |zero=>contradiction
 |succ n=>
  refine⟨n,?_⟩
  have st:step (denote table) prog w s ⟨gr a t,.builtin "claim.caller" {},default,[]⟩=.go s ⟨t,.builtin "claim.caller" {},default,[]⟩:=by
   obtain⟨heap,gens,drawn,toks,os⟩:=s
   rfl
  have e:=sstep_single (den:=denote table) (prog:=prog) (w:=w) s ⟨gr a t,.builtin "claim.caller" {},default,[]⟩ (by unfold gr;kernel_rfl) hz
  rw[st]at e
  rcases e with e |e
  ·simp only[schedN,e,Step.lift]at h
   exact h
  ·contradiction
def xt(q:acI)(loose:List Str)(XP:(Str->Option Value)->Heap->Prop)(YP:World->Heap->Prop)(r:RowW)(d:DefRec)(kwd:List (Str×ahV))(run:Value->Vs->Sem Value):Prop:=
 ∀ (w:World) (s₀ s₁:aaC) (mg mb:Str->Option Value),Ground q loose r.records XP w s₀ mg mb s₁.heap->YP w s₁.heap->∀ (a:Addr) (o:Obj) (pm cd doc dV kV:Value),s₁.heap.get? a=some o->
  o.data=.func {docDef d.name d.params d.body d.scope pm cd doc with defaults:=dV,kwdefaults:=kV}->s₁.heap.CodeRec cd d.name->Dflts mg s₁.heap d.params kwd dV kV->mg d.name=some (.ref a)->s₁.gens=#[]->
  ∀ (args:List WData) (vals:Vs) (as:List Addr),r.claim.pre args=true->afU args=true->ReadsAllW r.records (ajk s₀.heap) s₁.heap vals args as->WellAll w.params s₁.heap vals args->(∀ a∈as,(a==acw)=false)->
   GoodWG r.claim (ajk s₀.heap) (afm s₀.heap) args s₁ (.ok (.ret (.bool true))) s₁∧
   ao (model r.prog w) callerA (run (.ref a) vals) (λv s'=>GoodWG r.claim (ajk s₀.heap) (afm s₀.heap) args s₁ (.ok (.ret v)) s')
    (λe s'=>GoodWG r.claim (ajk s₀.heap) (afm s₀.heap) args s₁ (.error e) s') s₁
section
open _root_.PySem.SeqAt
theorem lookup_mem{α β:Type}[BEq α][LawfulBEq α]{l:List (α×β)}{x:α}{v:β}(h:l.lookup x=some v):(x,v)∈l:=by
 induction l with
 |nil=>exact ai h
 |cons p r ih=>
  rw[aay]at h
  cases q:x==p.1 with
  |true=>rw[q]at h;rw[eq_of_beq q,<-aae.inj h];exact .head _
  |false=>rw[q]at h;exact .tail _ (ih h)
noncomputable def vInt (v:Value):Option Int:=adS (motive:=λ_=>Option Int) v none none none (λ_=>none) (λi t=>some i) (λ_ _=>none) (λ_ _=>none) (λ_ _=>none) (λ_=>none) (λ_=>none) (λ_=>none)
theorem Ij{x:Int}(v:Value):vInt v=some x->∃ t,v=.int x t:=adS (motive:=λv=>vInt v=some x->∃ t,v=.int x t) v ai ai ai (λx0=>ai) (λa t=>λh=>⟨t,congrArg (Value.int · t) (aae.inj h)⟩) (λx0 x1=>ai) (λx0 x1=>ai) (λx0 x1=>ai) (λx0=>ai) (λx0=>ai) (λx0=>ai)
noncomputable def rM (K:Frag) (x:Str) (r:Value):Bool:=nsIn K acQ x==some none&&(x != ("__name__":Str)&&aiJ x==some r)
def rN(K:Frag)(p:Str×V):Bool:=V.casesOn (motive:=λ_=>Bool) p.2 false (λ_=>false) (λi=>((nsIn K acQ p.1).bind λo=>o.bind vInt)==some i) (λ_=>false) (λ_=>false) (λ_=>false) (λa=>nsIn K acQ p.1==some (some (.ref a))) (λn=>rM K p.1 (.type n)) (λn=>rM K p.1 (.builtin n)) (λ_=>false)
theorem Ik{K:Frag}{h:Heap}{mg mb:Str->Option Value}(X:K.In h)(G:h.Ns acQ mg)(B:∀ x:Str,x≠"__name__"->mb x=aiJ x){x:Str}(c:Cx)(v:V):rN K (x,v)=true->∃ r,(∀ g,VR c g v r)∧(mg x=some r∨(mg x=none∧mb x=some r)):=by
 have bi:∀ {r:Value},rM K x r=true->mg x=none∧mb x=some r:=λ{r} e=>by
  obtain⟨e1,e2⟩:=aab.mp e
  obtain⟨e3,e4⟩:=aab.mp e2
  exact⟨mg_none_of X G (eq_of_beq e1),(B x (bne_iff_ne.mp e3)).trans (eq_of_beq e4)⟩
 cases v with
 |ah a=>exactλe=>⟨.ref a,λg=>.ah a,.inl (mg_of X G (eq_of_beq e))⟩
 |int i=>
  intro e
  obtain⟨o,h1,e⟩:=fh (eq_of_beq e)
  obtain⟨v,rfl,e⟩:=fh e
  obtain⟨t,rfl⟩:=Ij v e
  exact⟨.int i t,λg=>.int i t,.inl (mg_of X G h1)⟩
 |ty n=>exactλe=>⟨.type n,λg=>.ty n,.inr (bi e)⟩
 |bi n=>exactλe=>⟨.builtin n,λg=>.bi n,.inr (bi e)⟩
 |_=>exactλe=>aaa e
noncomputable def xu (K:Frag) (T:List Str) (p:Addr×Nat):Bool:=T[p.2]?.any (nG K p.1)
noncomputable def xw (K:Frag) (T:List Str) (p:(Addr×Nat)×Addr):Bool:=T[p.1.2]?.any λx=>qs K p.1.1 x p.2
noncomputable def xy (K:Frag) (p:Addr×Addr):Bool:=makesIn K p.1&&aes K (.ref p.1) "__init__"==some (some (.ref p.2))&&aju K (.ref p.2)==some (.type "function")&&ahf K (.ref p.1)
noncomputable def xA (K:Frag) (c:Addr):Bool:=(clsIn K c).isSome&&instIn K (.ref c) (.type "tuple")==some false&&subIn K (.ref c) (.type "BaseException")==some true
section
variable {P:a9} {K:Frag} {mg mb:Str->Option Value}
theorem Il{c:Cx}(X:K.In c.b₀)(lim:c.b₀.NoLimit)(hT:c.T=P.T)(nd:decide P.T.Nodup=true)(G:c.b₀.Ns acQ mg)(B:c.b₀.Ns afC mb)(bb:∀ x:Str,x≠"__name__"->mb x=aiJ x)
  (h1:P.G.all (rN K)=true) (h2:P.cD.all (xu K P.T)=true) (h3:P.eqs.all (iO K)=true) (h4:P.e7.all (xw K P.T)=true):cO c P K mg mb where
 KX:=X
 lim:=lim
 T:=hT
 nd:=hT▸of_decide_eq_true nd
 glob:=⟨G,B,λx v e=>Ik X G bb c v (aaV.mp h1 _ (lookup_mem e))⟩
 fld C k e:=hT▸(ado _ _).mp (aaV.mp h2 _ (acZ.mp e))
 eqs C e:=aaV.mp h3 _ (acZ.mp e)
 e7 C k f e:=hT▸(ado _ _).mp (aaV.mp h4 _ (lookup_mem e))
theorem Im(h1:xA K P.bO=true)(h2:(subIn K (.ref P.bO) (.ref P.bO)==some true)=true):ij P K where
 one c h:=by
  obtain⟨e,e3⟩:=aab.mp h1
  obtain⟨e1,e2⟩:=aab.mp e
  rw[show c=P.bO from eq_of_beq h]
  exact⟨e1,eq_of_beq e2,eq_of_beq e3⟩
 two c d hc hd:=by
  rw[show c=P.bO from eq_of_beq hc,show d=P.bO from eq_of_beq hd,decide_eq_true rfl]
  exact eq_of_beq h2
theorem Io{fns:List (Addr×Fn)}(hP:P.fn=λa=>fns.lookup a)(h1:(fns.map λp=>fnIn K p.1)=fns.map λp=>some p.2)(hk:(fns.all λp=>ahf K (.ref p.1))=true)
  (h2:P.cls.all (xy K)=true):fF P K mg where
 fn c X a f e:=by
  rw[hP]at e
  obtain⟨i,hi⟩:=abG (lookup_mem e)
  have e2:=congrArg (λl=>l[i]?) h1
  rw[abu,abu,hi]at e2
  exact Ie (aae.inj e2) X
 xa a f e:=by
  rw[hP]at e
  exact aaV.mp hk _ (lookup_mem e)
 cls C init e:=by
  obtain⟨h,a4⟩:=aab.mp (aaV.mp h2 _ (lookup_mem e))
  obtain⟨h,a3⟩:=aab.mp h
  obtain⟨a1,a2⟩:=aab.mp h
  exact⟨a1,eq_of_beq a2,eq_of_beq a3,a4⟩
end
end
section
open _root_.PySem.SeqAt
noncomputable def rO (v:Data):Option afv:=adl (motive:=λ_=>Option afv) v none (λ_=>none) (λ_ _=>none) (λ_ _=>none) (λ_ _ _=>none) (λ_ _=>none) (λ_=>none) (λ_=>none) some (λ_=>none) none
theorem Ip{x:afv}(v:Data):rO v=some x->v=.cls x:=adl (motive:=λv=>rO v=some x->v=.cls x) v ai (λx0=>ai) (λx0 x1=>ai) (λx0 x1=>ai) (λx0 x1 x2=>ai) (λx0 x1=>ai) (λx0=>ai) (λx0=>ai) (λa=>λh=>congrArg Data.cls (aae.inj h)) (λx0=>ai) ai
noncomputable def fi (o:Obj) (i:Nat):Option Value:=(o.slots.toList[i]?).join
def xB(c:Addr)(o:Obj)(cd:afv):Bool:=o.cls==.type "type"&&o.slots.toList==[fi o 0,fi o 1,fi o 2,fi o 3,some (.builtin "ValueError.__new__"),fi o 5]&&cd.mro==.ref c::cd.mro.tail&&cd.hasDict&&!cd.hasDel
def excIn(K:Frag)(c:Addr):Option Vs:=(K.lookup c).bind λo=>(rO o.data).bind λcd=>if xB c o cd then some cd.mro.tail else none
theorem Iq{K:Frag}{c:Addr}{bm:Vs}(h:excIn K c=some bm):iH λnm q N bs sn sub=>iH λab col dd k0 k1 k2=>bT λk3 k5=>K.lookup c=some (aff nm q c N bs bm true sn sub ab col dd k0 k1 k2 k3 k5 "ValueError.__new__"):=by
 obtain⟨o,hk,h⟩:=fh h
 obtain⟨cd,hc,h⟩:=fh h
 cases hx:xB c o cd with
 |false=>rw[hx]at h;exact ai h
 |true=>
  rw[hx]at h
  replace h:=aae.inj h
  obtain⟨hx,e5⟩:=aab.mp hx
  obtain⟨hx,e4⟩:=aab.mp hx
  obtain⟨hx,e3⟩:=aab.mp hx
  obtain⟨e1,e2⟩:=aab.mp hx
  refine⟨cd.name,cd.qualname,cd.ns,cd.bases,cd.slotNames,cd.subclasses,cd.abstract,cd.collection,o.dict,fi o 0,fi o 1,fi o 2,fi o 3,fi o 5,hk.trans (congrArg some ?_)⟩
  generalize fi o 0=k0,fi o 1=k1,fi o 2=k2,fi o 3=k3,fi o 5=k5 at e2
  obtain⟨oc,od,data,⟨sl⟩⟩:=o
  obtain⟨nm,bs,mro,ns,q,hd,sn,sub,ab,col,hdel⟩:=cd
  have e1:oc=_:=eq_of_beq e1
  have e2:sl=_:=eq_of_beq e2
  have e3:mro=.ref c::mro.tail:=eq_of_beq e3
  have h:mro.tail=bm:=h
  rw[h]at e3
  have e4:hd=true:=e4
  have e5:hdel=false:=gN e5
  have hc:data=_:=Ip data hc
  rw[e1,e2,hc,e3,e4,e5]
noncomputable def Ir (bm:Vs):Bool:=bm.contains (.type "ValueError")&&!bm.contains (.type "AttributeError")&&!bm.contains (.type "NameError")
def xC(K:Frag)(c fI:Addr):Bool:=((excIn K c).any λbm=>Ir bm&&kK (.ref c::bm)==kL)&&
 aiH K (.ref c) "__call__"==some (some (.builtin "type.__call__"))&&instIn K (.ref c) (.type "type")==some true&&aju K (.ref c)==some (.type "type")&&ahf K (.ref c)&&subIn K (.ref c) (.ref c)==some true&&
 subIn K (.ref c) (.type "object")==some true&&subIn K (.ref c) (.type "ValueError")==some true&&subIn K (.ref c) (.type "BaseException")==some true&&aes K (.ref c) "__init__"==some (some (.ref fI))&&aju K (.ref fI)==some (.type "function")&&
 aes K (.ref c) "__setattr__"==some (some (.builtin "object.__setattr__"))&&agA K c "reason"==some none
theorem It{K:Frag}{c fI:Addr}(h:xC K c fI=true):mq K c fI:=by
 obtain⟨h,h13⟩:=aab.mp h
 obtain⟨h,h12⟩:=aab.mp h
 obtain⟨h,h11⟩:=aab.mp h
 obtain⟨h,h10⟩:=aab.mp h
 obtain⟨h,h9⟩:=aab.mp h
 obtain⟨h,h8⟩:=aab.mp h
 obtain⟨h,h7⟩:=aab.mp h
 obtain⟨h,h6⟩:=aab.mp h
 obtain⟨h,h5⟩:=aab.mp h
 obtain⟨h,h4⟩:=aab.mp h
 obtain⟨h,h3⟩:=aab.mp h
 obtain⟨h1,h2⟩:=aab.mp h
 obtain⟨bm,he,h1⟩:=(ado _ _).mp h1
 obtain⟨nm,q,N,bs,sn,sub,ab,col,dd,k0,k1,k2,k3,k5,e⟩:=Iq he
 obtain⟨a,a2⟩:=aab.mp h1
 obtain⟨a,b3⟩:=aab.mp a
 obtain⟨b1,b2⟩:=aab.mp a
 exact⟨⟨nm,q,N,bs,bm,sn,sub,ab,col,dd,k0,k1,k2,k3,k5,e,b1,gN b2,gN b3,eq_of_beq a2⟩,eq_of_beq h2,eq_of_beq h3,eq_of_beq h4,h5,eq_of_beq h6,eq_of_beq h7,eq_of_beq h8,eq_of_beq h9,eq_of_beq h10,eq_of_beq h11,eq_of_beq h12,eq_of_beq h13⟩
def xD(K:Frag)(c fC fB B:Addr):Bool:=xC K c fC&&agA K c "writes"==some none&&aiH K (.ref B) "__getattribute__"==some (some (.builtin "type.__getattribute__"))&&readsIn K B (.type "type")&&ahf K (.ref fB)
theorem Iu{P:a9}{K:Frag}{fI fC B:Addr}(hi:oa P fI)(hc:xD K P.bO fC fI B=true)(hf:aim K (.ref B) (.type "type") "__init__"=some (.val (.ref fI)))(hb:P.G.lookup ("BoardError":Str)=some (V.ah B))(hic:∃ f,cB (P.fn fC=some f) (mu f.body) (f.params=[("self":Str),("writes":Str)]) (f.scope.names=iW))
  (h2:(aim K (.type "ValueError") (.type "type") "__init__")=some (.val (.builtin "ValueError.__init__"))) (h3:P.G.lookup ("ValueError":Str)=some (V.ty "ValueError")):kM P K:=by
 obtain⟨hc,c6⟩:=aab.mp hc
 obtain⟨hc,c4⟩:=aab.mp hc
 obtain⟨hc,c3⟩:=aab.mp hc
 obtain⟨c1,c2⟩:=aab.mp hc
 exact⟨⟨fC,fI,B,It c1,eq_of_beq c2,hb,eq_of_beq c3,c4,hf,rfl,c6,hi,hic⟩,h2,h3⟩
structure Iv(P:a9)(K:Frag)(fns:List (Addr×Fn))(fI fC B:Addr):Prop where
 nd:decide P.T.Nodup=true
 glob:P.G.all (rN K)=true
 fld:P.cD.all (xu K P.T)=true
 eqs:P.eqs.all (iO K)=true
 e7:P.e7.all (xw K P.T)=true
 x1:xA K P.bO=true
 x2:(subIn K (.ref P.bO) (.ref P.bO)==some true)=true
 Iw:P.fn=λa=>fns.lookup a
 fn:(fns.map λp=>fnIn K p.1)=fns.map λp=>some p.2
 keep:(fns.all λp=>ahf K (.ref p.1))=true
 cls:P.cls.all (xy K)=true
 init:oa P fI
 bO:xD K P.bO fC fI B=true
 Iy:aim K (.ref B) (.type "type") "__init__"=some (.val (.ref fI))
 Iz:P.G.lookup ("BoardError":Str)=some (V.ah B)
 rE:∃ f,cB (P.fn fC=some f) (mu f.body) (f.params=[("self":Str),("writes":Str)]) (f.scope.names=iW)
 ve:(aim K (.type "ValueError") (.type "type") "__init__")=some (.val (.builtin "ValueError.__init__"))
 IA:P.G.lookup ("ValueError":Str)=some (V.ty "ValueError")
theorem IB{q:acI}{loose:List Str}{XP:(Str->Option Value)->Heap->Prop}{r:RowW}{d:DefRec}{kwd:List (Str×ahV)}{K:Params->Frag}{as:List Addr}{e:∀ P,as=(K P).map (·.1)}
  {P:a9} {fns:List (Addr×Fn)} {fI fC B law:Addr} {f:Fn} {n:Nat} (ok:∀ p:Params,Iv P (K p) fns fI fC B) (himp:importsNone q=true) (hlaw:∀ p,nsIn (K p) acQ d.name=some (some (.ref law))) (hf:P.fn law=some f)
  (hd:302+4*(n+3)<adq) (hu:7+24*(n+3)<cLine)
  (hargs:∀ (w:World) (h:Heap) (cl:Str->Option Addr) (args:List WData) (vals:Vs) (as:List Addr),r.claim.pre args=true->afU args=true->ReadsAllW r.records cl h vals args as->WellAll w.params h vals args->(∀ a∈as,(a==acw)=false)->∃ l vs xs,vals=[.ref l]∧h.IsList l vs.toArray∧agX vs xs∧xs.length<=63)
  (hrun:∀ xs:List Int,xs.length<=63->∃ H,run P (n+1) (.ah law) [.ints xs] []=.ok (.bool true) H) (hpost:∀ args,r.claim.post args (.bool true) args=true) (hraise:∀ a x,r.claim.raises a x=false):
  xt q loose XP (kHook K as e).says r d kwd λf vs=>aal f vs:=by
 intro w s₀ s₁ mg mb G Y fa o pm cd doc dV kV ho hdd hcd hD hmg hg args vals as' hpre hlay hrd hwl hlo
 have KX:(K w.params).In s₁.heap:=kIn_of Y
 have ok:=ok w.params
 have T:=G.T
 have sys:∃ o,s₁.heap.get? acw=some o:=by
  obtain⟨mm,⟨o,es,ep,h1,h2,h3⟩,_⟩:=(T.seer himp).mods
  exact⟨o,h1⟩
 have hfa:fa=law:=by
  have:=mg_of KX T.g (hlaw w.params)
  rw[hmg]at this
  cases this;rfl
 subst hfa
 have good:∀ (s':aaC),OldK s₁.heap s'.heap->s'.os=s₁.os->s'.gens=s₁.gens->GoodWG r.claim (ajk s₀.heap) (afm s₀.heap) args s₁ (.ok (.ret (.bool true))) s':=λs' k1 k2 k3=>
  ⟨.inl ⟨.bool true,.bool true,[],rfl,λc=>hraise args c,.bool true,hpost args,λ_=>⟨abC,λa h=>nomatch h⟩⟩,k1,k2,.of_eq (k3.trans hg)⟩
 refine⟨good s₁ (OldK.refl _) rfl rfl,?_⟩
 obtain⟨l,vs,xs,rfl,hl,hi,hlen⟩:=hargs w _ _ _ _ _ hpre hlay hrd hwl hlo
 obtain⟨H',hr⟩:=hrun xs hlen
 let c:Cx:={prog:=r.prog,w:=w,T:=P.T,b₀:=s₁.heap,X:=[],fs:=[],N:=0}
 have PK:cO c P (K w.params) mg mb:=Il KX T.nolimit rfl ok.nd T.g T.b T.builtins ok.glob ok.fld ok.eqs ok.e7
 have TX:fF P (K w.params) mg:=Io ok.Iw ok.fn ok.keep ok.cls
 exact H0 (c:=c) rfl rfl rfl PK sys (Im ok.x1 ok.x2) TX (Iu ok.init ok.bO ok.Iy ok.Iz ok.rE ok.ve ok.IA) hd hu hf (.cons (VR.AN hl hi) .nil) hr λh' tk r' g' k1 k3=>by
  rw[show r'=.bool true from k3]
  exact good _ ⟨λb o e=>.inl (k1 b o e),λb o e=>⟨o,k1 b o e⟩⟩ rfl rfl
end
section
open _root_.PySem.SeqAt
noncomputable abbrev pw:acI:=aiZ
noncomputable def T0:List Str:=(["__init__","reason","writes","a head that is too long","extend","append","the head of the log","blocks","disk","a log that the disk does not have","cache","start","size","places","most","too few buffers for a log","each","more blocks a call than the log has","numbers","noted","calls","commits","a write outside of a call","is_own","number","a write into the log itself","need_held","too many blocks for the log","pin","poke","flush","peek","a recovery among open calls","pending","install","write_head","data","holders","pins","a part that a block does not have","need_part","a block of another size","a cache without buffers","row","by_number","hits","reads","no such block","get","a buffer that is not held","need_block","make_room","read","is_free","all buffers are held","remove","write","octets","release","fill","a disk of no octets","kept","latest","unflushed","flushes","last","last_flush","is_dead","need_power","fail","a count below 0","no such write","told","room","argument","stop_at_flush","recover","after","join","has_room","the log","no call is open","commit","fill_log","unpin","a block that is not pinned","begin","end","stop_after"]:List String).map ada
def tS(i:Nat):Stmt:=match pw.main.body[i]? with
 |some s=>s
 |none=>.Pass default
def mS(i j:Nat):Stmt:=afP (motive_2:=λ_=>Stmt) (tS i) (λx0 x1 x2 x3 x4 x5 x6 x7 x8 x9=>abt default) (λx0 x1 x2 x3 x4 x5 x6 x7 x8 x9=>abt default) (λx0 x1 x2 body x4 x5 x6 x7 x8 x9 x10=>body[j]?.getD (.Pass default)) (λx0 x1=>abt default) (λx0 x1=>abt default) (λx0 x1 x2=>abt default) (λx0 x1 x2 x3 x4 x5 x6=>abt default) (λx0 x1 x2 x3=>abt default) (λx0 x1 x2 x3 x4=>abt default) (λx0 x1 x2 x3 x4=>abt default) (λx0 x1 x2 x3 x4=>abt default) (λx0 x1 x2 x3=>abt default) (λx0 x1 x2 x3=>abt default) (λx0 x1 x2=>abt default) (λx0 x1 x2=>abt default) (λx0 x1 x2=>abt default) (λx0 x1 x2=>abt default) (λx0 x1 x2 x3 x4=>abt default) (λx0 x1 x2 x3 x4=>abt default) (λx0 x1 x2=>abt default) (λx0 x1=>abt default) (λx0 x1 x2 x3=>abt default) (λx0 x1=>abt default) (λx0 x1=>abt default) (λx0 x1=>abt default) (λx0=>abt default) (λx0=>abt default) (λx0=>abt default)
noncomputable def IC (e:Expr):Bool:=aaO (motive_1:=λ_=>Bool) e (λ_ _ _=>false) (λ_ _ _=>false) (λ_ _ _ _=>false) (λ_ _ _=>false) (λ_ _ _ _=>false) (λ_ _ _ _=>false) (λ_ _ _=>false) (λ_ _ _=>false) (λ_ _ _ _=>false) (λ_ _ _ _=>false) (λ_ _ _ _ _=>false) (λ_ _ _ _=>false) (λ_ _=>false) (λ_ _=>false) (λ_ _=>false) (λ_ _ _ _=>false) (λ_ _ _ _=>false) (λ_ _ _ _=>false) (λ_ _=>false) (λc x1 x2=>c.ctorIdx==0) (λ_ _ _=>false) (λ_ _ _=>false) (λ_ _=>false) (λ_ _=>false) (λ_ _=>false) (λ_ _ _=>false) (λ_ _ _ _=>false)
def ID(l:List Expr):Bool:=l.length==1&&l.all IC
def fS(s:Stmt):Fn:=afP (motive_2:=λ_=>Fn) s (λx0 args body x3 x4 x5 scope x7 x8 x9=>⟨args.args.map (·.arg),ID args.defaults,scope,body⟩) (λx0 x1 x2 x3 x4 x5 x6 x7 x8 x9=>⟨[],false,default,[]⟩) (λx0 x1 x2 x3 x4 x5 x6 x7 x8 x9 x10=>⟨[],false,default,[]⟩) (λx0 x1=>⟨[],false,default,[]⟩) (λx0 x1=>⟨[],false,default,[]⟩) (λx0 x1 x2=>⟨[],false,default,[]⟩) (λx0 x1 x2 x3 x4 x5 x6=>⟨[],false,default,[]⟩) (λx0 x1 x2 x3=>⟨[],false,default,[]⟩) (λx0 x1 x2 x3 x4=>⟨[],false,default,[]⟩) (λx0 x1 x2 x3 x4=>⟨[],false,default,[]⟩) (λx0 x1 x2 x3 x4=>⟨[],false,default,[]⟩) (λx0 x1 x2 x3=>⟨[],false,default,[]⟩) (λx0 x1 x2 x3=>⟨[],false,default,[]⟩) (λx0 x1 x2=>⟨[],false,default,[]⟩) (λx0 x1 x2=>⟨[],false,default,[]⟩) (λx0 x1 x2=>⟨[],false,default,[]⟩) (λx0 x1 x2=>⟨[],false,default,[]⟩) (λx0 x1 x2 x3 x4=>⟨[],false,default,[]⟩) (λx0 x1 x2 x3 x4=>⟨[],false,default,[]⟩) (λx0 x1 x2=>⟨[],false,default,[]⟩) (λx0 x1=>⟨[],false,default,[]⟩) (λx0 x1 x2 x3=>⟨[],false,default,[]⟩) (λx0 x1=>⟨[],false,default,[]⟩) (λx0 x1=>⟨[],false,default,[]⟩) (λx0 x1=>⟨[],false,default,[]⟩) (λx0=>⟨[],false,default,[]⟩) (λx0=>⟨[],false,default,[]⟩) (λx0=>⟨[],false,default,[]⟩)
def xE:List (Addr×Fn):=[
 (36,fS (mS 2 0)),
 (92,fS (mS 6 0)),
 (102,fS (tS 11)),
 (109,fS (tS 12)),
 (116,fS (tS 13)),
 (131,fS (mS 14 0)),
 (138,fS (mS 14 1)),
 (145,fS (mS 14 2)),
 (159,fS (mS 14 4)),
 (166,fS (mS 14 5)),
 (173,fS (mS 14 6)),
 (180,fS (mS 14 7)),
 (187,fS (mS 14 8)),
 (194,fS (mS 14 9)),
 (201,fS (mS 14 10)),
 (208,fS (mS 14 11)),
 (215,fS (mS 14 12)),
 (236,fS (mS 16 0)),
 (243,fS (mS 16 1)),
 (250,fS (mS 16 2)),
 (278,fS (mS 16 6)),
 (334,fS (mS 17 0)),
 (341,fS (mS 17 1)),
 (348,fS (mS 17 2)),
 (355,fS (mS 17 3)),
 (362,fS (mS 17 4)),
 (369,fS (mS 17 5)),
 (376,fS (mS 17 6)),
 (383,fS (mS 17 7)),
 (390,fS (mS 17 8)),
 (397,fS (mS 17 9)),
 (404,fS (mS 17 10)),
 (411,fS (mS 17 11)),
 (453,fS (mS 19 0)),
 (460,fS (mS 19 1)),
 (467,fS (mS 19 2)),
 (474,fS (mS 19 3)),
 (481,fS (mS 19 4)),
 (488,fS (mS 19 5)),
 (495,fS (mS 19 6)),
 (502,fS (mS 19 7)),
 (509,fS (mS 19 8)),
 (516,fS (mS 19 9)),
 (544,fS (tS 21)),
 (551,fS (tS 22)),
 (565,fS (tS 24)),
 (572,fS (tS 25)),
 (579,fS (tS 26)),
 (584,fS (tS 27)),
 (591,fS (tS 28)),
 (596,fS (tS 29)),
 (603,fS (tS 30)),
 (608,fS (tS 31))]
noncomputable def G0:List (Str×V):=([("BoardError",V.ah 39),("BadArgument",V.ah 52),("BadDisk",V.ah 64),("NoRoom",V.ah 76),("Crash",V.ah 95),("NUMBER",V.int 4),("MOST_EACH",V.int 10),("SPARE",V.int 4),("packed_head",V.ah 102),("numbers_of",V.ah 109),("read_head",V.ah 116),("Journal",V.ah 218),("Buffer",V.ah 316),("Cache",V.ah 435),("Disk",V.ah 533),("_law_pool",V.ah 544),("_law_take",V.ah 551),("_law_met",V.ah 558),("_law_disk",V.ah 565),("_law_rows",V.ah 572),("_law_run",V.ah 579),("_law_data",V.ah 584),("_law_behind",V.ah 591),("_law_places",V.ah 596),("_law_point_right",V.ah 603),("law",V.ah 608),("len",V.bi "len"),("abs",V.bi "abs"),("min",V.bi "min"),("isinstance",V.bi "isinstance"),("int",V.ty "int"),("range",V.ty "range"),("bytes",V.ty "bytes"),("bytearray",V.ty "bytearray"),("list",V.ty "list"),("dict",V.ty "dict"),("set",V.ty "set"),("enumerate",V.ty "enumerate"),("reversed",V.ty "reversed"),("ValueError",V.ty "ValueError")]:List (String×V)).map λp=>(ada p.1,p.2)
def P0:a9:={
 T:=T0,G:=G0,fn:=λa=>xE.lookup a,cls:=[(218,131),(316,236),(435,334),(533,453)],
 e7:=[((218,0),131),((218,23),138),((218,79),145),((218,86),159),((218,56),166),((218,87),173),((218,82),180),((218,83),187),((218,35),194),((218,34),201),((218,33),208),((218,76),215),((316,0),236),((316,53),243),((316,57),250),((316,59),278),((435,0),334),((435,50),341),((435,26),348),((435,48),355),((435,51),362),((435,58),369),((435,28),376),((435,84),383),((435,56),390),((435,30),397),((435,31),404),((435,29),411),((533,0),453),((533,68),460),((533,50),467),((533,52),474),((533,56),481),((533,69),488),((533,30),495),((533,88),502),((533,75),509),((533,77),516)],
 cD:=[(218,10),(218,11),(218,12),(218,13),(218,14),(218,16),(218,18),(218,19),(218,20),(218,21),(316,24),(316,36),(316,37),(316,38),(435,8),(435,14),(435,12),(435,43),(435,44),(435,45),(435,46),(435,2),(533,7),(533,12),(533,61),(533,62),(533,63),(533,2),(533,64),(533,65),(533,66),(533,67)],
 eqs:=[316],bO:=95}
end
/-! the small interpreter's programs,their names resolved -/
noncomputable def bD:List (M V)->M (List V)
 | []=>pure []
 |m::ms=>do let v<-m;return v::(<-bD ms)
noncomputable def aV (a:V):List CmpOp->List (M V)->M Bool
 | [],_=>no
 |op::ops,es=>match es with
  | []=>no
  |e::es=>e>>=λb=>cF op a b>>=λt=>if ops.isEmpty then pure t else if t then aV b ops es else pure false
noncomputable def allM (op:agU):List (M Bool)->M Bool
 | []=>pure (op==.And)
 |e::es=>e>>=λt=>if lI op t then pure t else allM op es
noncomputable def gs (op:agU):List (M V)->M V
 | []=>no
 |e::es=>if es.isEmpty then e else e>>=λv=>gh v>>=λt=>if lI op t then pure v else gs op es
noncomputable def ax:Lm->M Fl
 | []=>pure .next
 |s::ss=>s>>=λr=>ur r (ax ss)
noncomputable def ik:List (Option Nat)->Lo->Option Lo
 | [],_=>some []
 |o::r,lo=>(match o with
  |none=>some none
  |some i=>lo[i]?.join.map some).bind λv=>(ik r lo).map (v::·)
section
variable (P:a9) (C:Ct)
def gA(k:Nat)(v:V):M V:=do
 let a<-bx v
 let x<-gH a
 guard (P.cD.contains (x.1,k))
 let r<-aG (x.2.lookup k)
 guard (kh r)
 return r
def sA(k:Nat)(v x:V):M Unit:=do
 let a<-bx v
 let o<-gH a
 guard (P.cD.contains (o.1,k)&&decide (o.2.length<=100))
 put a (.inst o.1 (e9 o.2 k x))
def aH(ov:M V)(nm:Str)(args:List (M V)):M V:=ov>>=λov=>getM P ov nm>>=λfm=>bD args>>=λas=>aP P C true fm.1 (fm.2++as)
def ay(f:V)(args:List (M V)):M V:=bD args>>=λas=>aP P C true f as
def dY(l:M V)(ops:List CmpOp)(rs:List (M V)):M V:=l>>=λa=>aV a ops rs>>=λt=>pure (.bool t)
def aJ(op:abZ)(l r:M V):M V:=l>>=λa=>r>>=λb=>binop op a b
def listS(es:List (M V)):M V:=bD es>>=λvs=>guard (decide (vs.length<=lim))>>=λ_=>alloc (.list vs)
def tupS(es:List (M V)):M V:=bD es>>=λvs=>guard (decide (vs.length<=lim))>>=λ_=>alloc (.tuple vs)
def gQ{α:Type}(t:M Bool)(a b:M α):M α:=t>>=λx=>if x then a else b
def bz(t:M Bool)(a b:Lm):M Fl:=t>>=λx=>if x then ax a else ax b
def aE(v:M V)(t:V->M Unit):M Fl:=v>>=λx=>t x>>=λ_=>pure .next
noncomputable def xF:List (V->M Unit)->List V->M Unit
 | [],_=>pure ()
 |t::ts,l=>match l with
  | []=>pure ()
  |x::xs=>t x>>=λ_=>xF ts xs
def dg(ts:List (V->M Unit))(v:V):M Unit:=bx v>>=λa=>iI a>>=λxs=>guard (decide (xs.length=ts.length))>>=λ_=>xF ts xs
def bj(v:M V):M Fl:=v>>=λ_=>pure .next
def bP(v:M V):M Fl:=v>>=λx=>pure (.ret x)
def dH(it:M V)(tgt:V->M Unit)(body:Lm):M Fl:=
 it>>=λx=>iter x>>=λi=>loop (bI i.2) (λv=>pure v>>=eA tgt (ax body>>=eR)) i.1>>=eD
def iX(it:M V)(tgt:V->M Unit)(body:Lm):M Fl:=
 it>>=λw=>bx w>>=λa=>bV a>>=λxs=>guard (decide (xs.length<=lim))>>=λ_=>
  loop (bI (some (a,xs))) (λv=>iL xs v>>=eA tgt (ax body>>=eR)) ((aaw xs.length).map λ(k:Nat)=>V.int (k:Int))>>=eD
def forR(it:M V)(tgt:V->M Unit)(body:Lm):M Fl:=
 it>>=λw=>eZ w>>=λb=>guard (decide (b.length<=lim))>>=λ_=>
  loop (bI none) (λv=>pure v>>=eA tgt (ax body>>=eR)) (b.reverse.map λx=>V.int (x.toNat:Int))>>=eD
def gu(mk:Lo->Option Lo)(it:M V)(tgt:V->M Unit)(ifs:List (M Bool))(elt:M V):M V:=
 it>>=λx=>iter x>>=λit=>locals>>=λlo=>alloc (.list [])>>=λacc=>aG (mk lo)>>=λlo'=>
  inBlock lo' (loop (bI it.2) (λv=>tgt v>>=λ_=>allM .And ifs>>=λok=>if ok then (elt>>=λy=>bi P "list.append" [acc,y]>>=λ_=>pure none)else pure (none:Option Unit)) it.1)>>=λ_=>pure acc
def mw(c d:Addr)(body:Lm)(rest:M Fl):M Fl:=guard (isExc P c&&isExc P d)>>=λ_=>if d=c then calm (ax body)else rest
abbrev bk:R Fl->CR:=iM
end
section
def Rn(k n:Nat):Ct:=run P0 (n+k)
theorem rq{r:CR}{S:St->R Fl}{lo:Lo}{H:Hp}(h:r=bk (S ⟨lo,H++[]⟩)):r=bk (S ⟨lo,H⟩):=by rw[aar]at h;exact h
variable (C:Ct)
def IE:Lm:=(bj (aH P0 C (ae 2) "extend" [ay P0 C (V.ty "bytes") [gu P0 (ik [none,none,some 3]) (ay P0 C (V.ty "range") [pure (V.int 4)]) (aD 1) [] (aJ .BitAnd (aJ .RShift (dM 2) (aJ .Mult (pure (V.int 8)) (ae 1))) (pure (V.int 255)))]]))::[]
def IF:Lm:=(bP (aJ .Add (ay P0 C (V.ty "bytes") [ae 2]) (ay P0 C (V.ty "bytes") [aJ .Sub (ae 1) (ay P0 C (V.bi "len") [ae 2])])))::[]
def IG:Lm:=(dH (aJ .Add (listS [ay P0 C (V.bi "len") [ae 0]]) (ay P0 C (V.ty "list") [ae 0])) (lA 3) (IE C))::(IF C)
def II:Lm:=(aE (ay P0 C (V.ty "bytearray") []) (aD 2))::(IG C)
def IJ:Lm:=(bz ((aJ .Mult (pure (V.int 4)) (aJ .Add (ay P0 C (V.bi "len") [ae 0]) (pure (V.int 1))))>>=λa=>aV a [.Gt] [ae 1]) [bD [pure (V.str 3)]>>=λas=>b8 P0 true 52 as] [])::(II C)
noncomputable abbrev IK (a0:V) (a1:V) (c0:Nat):Lo:=[some a0,some a1,none,some (.ref c0),none,none,none,none,none,none,none]
theorem IL(k n:Nat)(H:Hp)(a0 a1:V):Rn (k+1) n (.ah 102) [a0,a1] H=bk (ax (IJ (Rn k n)) ⟨IK a0 a1 H.length,H++[O.cell none]⟩):=by kernel_rfl
def IM(C:Ct):Lm:=(aE (aJ .BitOr (aJ .LShift (ae 3) (pure (V.int 8))) (ae 4)) (aD 3))::[]
def IP:Lm:=(bj (aH P0 C (ae 1) "append" [ae 3]))::[]
def IQ:Lm:=(forR ((ae 0)>>=λo=>((ae 2)>>=λv=>aX v>>=λi=>pure (some i))>>=λl=>((aJ .Add (ae 2) (pure (V.int 4)))>>=λv=>aX v>>=λi=>pure (some i))>>=λh=>fA o l h) (aD 4) (IM C))::(IP C)
def IS:Lm:=(aE (pure (V.int 0)) (aD 3))::(IQ C)
def IT(C:Ct):Lm:=(bP (ae 1))::[]
def IU:Lm:=(dH (ay P0 C (V.ty "range") [pure (V.int 0),aJ .Add (aJ .Sub (ay P0 C (V.bi "len") [ae 0]) (pure (V.int 4))) (pure (V.int 1)),pure (V.int 4)]) (aD 2) (IS C))::(IT C)
def IV:Lm:=(aE (listS []) (aD 1))::(IU C)
noncomputable abbrev IW (a0:V):Lo:=[some a0,none,none,none,none,none,none,none,none]
theorem IX(k n:Nat)(H:Hp)(a0:V):Rn (k+1) n (.ah 109) [a0] H=bk (ax (IV (Rn k n)) ⟨IW a0,H⟩):=rq (by kernel_rfl)
def xG(C:Ct):Lm:=(bP ((ae 2)>>=λo=>((pure (V.int 1))>>=λv=>aX v>>=λi=>pure (some i))>>=λl=>((aJ .Add (pure (V.int 1)) ((ae 2)>>=λo=>(pure (V.int 0))>>=λi=>cX o i))>>=λv=>aX v>>=λi=>pure (some i))>>=λh=>fA o l h))::[]
def IY:Lm:=(bz (allM .Or [(ay P0 C (V.bi "len") [ae 2])>>=λa=>aV a [.Eq] [pure (V.int 0)],((ae 2)>>=λo=>(pure (V.int 0))>>=λi=>cX o i)>>=λa=>aV a [.Gt] [ae 1],((ae 2)>>=λo=>(pure (V.int 0))>>=λi=>cX o i)>>=λa=>aV a [.GtE] [ay P0 C (V.bi "len") [ae 2]]]) [bD [pure (V.str 6)]>>=λas=>b8 P0 true 64 as] [])::(xG C)
def IZ:Lm:=(aE (ay P0 C (V.ah 109) [ae 0]) (aD 2))::(IY C)
noncomputable abbrev I0 (a0:V) (a1:V):Lo:=[some a0,some a1,none,none,none,none]
theorem I3(k n:Nat)(H:Hp)(a0 a1:V):Rn (k+1) n (.ah 116) [a0,a1] H=bk (ax (IZ (Rn k n)) ⟨I0 a0 a1,H⟩):=rq (by kernel_rfl)
def I4(C:Ct):Lm:=(aE (pure (V.int 0)) (λv=>(ae 0)>>=λo=>sA P0 21 o v))::[]
def I5:Lm:=(aE (pure (V.int 0)) (λv=>(ae 0)>>=λo=>sA P0 20 o v))::(I4 C)
def I6:Lm:=(aE (alloc (.dict [])) (λv=>(ae 0)>>=λo=>sA P0 19 o v))::(I5 C)
def I7:Lm:=(aE (listS []) (λv=>(ae 0)>>=λo=>sA P0 18 o v))::(I6 C)
def xH:Lm:=(bz (((pure (V.int 1))>>=λa=>aV a [.LtE,.LtE] [(ae 0)>>=gA P0 16,(ae 0)>>=gA P0 14])>>=λb=>pure (!b)) [bD [pure (V.str 17)]>>=λas=>b8 P0 true 52 as] [])::(I7 C)
def I8:Lm:=(aE (gQ ((ae 4)>>=λa=>aV a [.Is] [pure V.none]) (ay P0 C (V.bi "min") [pure (V.int 10),(ae 0)>>=gA P0 14]) (ae 4)) (λv=>(ae 0)>>=λo=>sA P0 16 o v))::(xH C)
def I9:Lm:=(bz (((ae 0)>>=gA P0 14)>>=λa=>aV a [.Lt] [pure (V.int 1)]) [bD [pure (V.str 15)]>>=λas=>b8 P0 true 52 as] [])::(I8 C)
def Ja:Lm:=(aE (ay P0 C (V.bi "min") [(ae 0)>>=gA P0 13,aJ .Sub ((ae 1)>>=gA P0 14) (pure (V.int 4))]) (λv=>(ae 0)>>=λo=>sA P0 14 o v))::(I9 C)
def Jb:Lm:=(aE (ay P0 C (V.bi "min") [aJ .Sub (ae 3) (pure (V.int 1)),aJ .Sub (aJ .FloorDiv ((ae 1)>>=gA P0 12) (pure (V.int 4))) (pure (V.int 1))]) (λv=>(ae 0)>>=λo=>sA P0 13 o v))::(Ja C)
def Jc:Lm:=(aE (ae 3) (λv=>(ae 0)>>=λo=>sA P0 12 o v))::(Jb C)
def Jd:Lm:=(aE (ae 2) (λv=>(ae 0)>>=λo=>sA P0 11 o v))::(Jc C)
def Je:Lm:=(aE (ae 1) (λv=>(ae 0)>>=λo=>sA P0 10 o v))::(Jd C)
def xI:Lm:=(bz (allM .Or [(ae 2)>>=λa=>aV a [.Lt] [pure (V.int 0)],(ae 3)>>=λa=>aV a [.Lt] [pure (V.int 2)],(aJ .Add (ae 2) (ae 3))>>=λa=>aV a [.Gt] [((ae 1)>>=gA P0 8)>>=gA P0 7]]) [bD [pure (V.str 9)]>>=λas=>b8 P0 true 52 as] [])::(Je C)
noncomputable abbrev rP (a0:V) (a1:V) (a2:V) (a3:V) (a4:V):Lo:=[some a0,some a1,some a2,some a3,some a4,none,none,none,none,none]
theorem xJ(k n:Nat)(H:Hp)(a0 a1 a2 a3 a4:V):Rn (k+1) n (.ah 131) [a0,a1,a2,a3,a4] H=bk (ax (xI (Rn k n)) ⟨rP a0 a1 a2 a3 a4,H⟩):=rq (by kernel_rfl)
theorem Jf(k n:Nat)(H:Hp)(a0 a1 a2 a3:V):Rn (k+1) n (.ah 131) [a0,a1,a2,a3] H=bk (ax (xI (Rn k n)) ⟨rP a0 a1 a2 a3 .none,H⟩):=rq (by kernel_rfl)
def Jg(C:Ct):Lm:=(bP (dY ((ae 0)>>=gA P0 11) [.LtE,.Lt] [ae 1,aJ .Add ((ae 0)>>=gA P0 11) ((ae 0)>>=gA P0 12)]))::[]
noncomputable abbrev Jh (a0:V) (a1:V):Lo:=[some a0,some a1]
theorem Ji(k n:Nat)(H:Hp)(a0 a1:V):Rn (k+1) n (.ah 138) [a0,a1] H=bk (ax (Jg (Rn k n)) ⟨Jh a0 a1,H⟩):=rq (by kernel_rfl)
def Jj:Lm:=(bP (dY (aJ .Add (ay P0 C (V.bi "len") [(ae 0)>>=gA P0 18]) (aJ .Mult (aJ .Add ((ae 0)>>=gA P0 20) (pure (V.int 1))) ((ae 0)>>=gA P0 16))) [.LtE] [(ae 0)>>=gA P0 14]))::[]
abbrev Jk(a0:V):Lo:=[some a0,none]
theorem Jl(k n:Nat)(H:Hp)(a0:V):Rn (k+1) n (.ah 145) [a0] H=bk (ax (Jj (Rn k n)) ⟨Jk a0,H⟩):=rq (by kernel_rfl)
def Jm(C:Ct):Lm:=((ae 0)>>=λo=>gA P0 20 o>>=λa=>(pure (V.int 1))>>=λb=>cE .Add a b>>=λr=>sA P0 20 o r>>=λ_=>pure .next)::[]
def Jo:Lm:=(bz (((aH P0 C (ae 0) "has_room" [])>>=truth)>>=λb=>pure (!b)) [bD [pure (V.str 80)]>>=λas=>b8 P0 true 76 as] [])::(Jm C)
abbrev Jp(a0:V):Lo:=[some a0,none]
theorem Jq(k n:Nat)(H:Hp)(a0:V):Rn (k+1) n (.ah 159) [a0] H=bk (ax (Jo (Rn k n)) ⟨Jp a0,H⟩):=rq (by kernel_rfl)
def Jr:Lm:=(bj (aH P0 C ((ae 0)>>=gA P0 18) "append" [(ae 1)>>=gA P0 24]))::[]
def Js:Lm:=(aE (ay P0 C (V.bi "len") [(ae 0)>>=gA P0 18]) (λv=>((ae 0)>>=gA P0 19)>>=λo=>((ae 1)>>=gA P0 24)>>=λi=>dN o i v))::(Jr C)
def Jt:Lm:=(bj (aH P0 C ((ae 0)>>=gA P0 10) "pin" [ae 1]))::(Js C)
def Ju:Lm:=(bz ((ay P0 C (V.bi "len") [(ae 0)>>=gA P0 18])>>=λa=>aV a [.GtE] [(ae 0)>>=gA P0 14]) [bD [pure (V.str 27)]>>=λas=>b8 P0 true 76 as] [])::(Jt C)
def Jv:Lm:=(bz (((ae 1)>>=gA P0 24)>>=λa=>aV a [.In] [(ae 0)>>=gA P0 19]) [bj (aH P0 C ((ae 0)>>=gA P0 10) "need_held" [ae 1]),pure (.ret .none)] [])::(Ju C)
def Jw:Lm:=(bz ((aH P0 C (ae 0) "is_own" [(ae 1)>>=gA P0 24])>>=truth) [bD [pure (V.str 25)]>>=λas=>b8 P0 true 52 as] [])::(Jv C)
def Jx:Lm:=(bz (((ae 0)>>=gA P0 20)>>=λa=>aV a [.Eq] [pure (V.int 0)]) [bD [pure (V.str 22)]>>=λas=>b8 P0 true 52 as] [])::(Jw C)
abbrev Jy(a0:V)(a1:V):Lo:=[some a0,some a1,none,none,none]
theorem Jz(k n:Nat)(H:Hp)(a0 a1:V):Rn (k+1) n (.ah 166) [a0,a1] H=bk (ax (Jx (Rn k n)) ⟨Jy a0 a1,H⟩):=rq (by kernel_rfl)
def JA:Lm:=(bz (allM .And [((ae 0)>>=gA P0 20)>>=λa=>aV a [.Eq] [pure (V.int 0)],((ae 0)>>=gA P0 18)>>=λa=>aV a [.NotEq] [listS []]]) [bj (aH P0 C (ae 0) "commit" [])] [])::[]
def JB:Lm:=((ae 0)>>=λo=>gA P0 20 o>>=λa=>(pure (V.int 1))>>=λb=>cE .Sub a b>>=λr=>sA P0 20 o r>>=λ_=>pure .next)::(JA C)
def JC:Lm:=(bz (((ae 0)>>=gA P0 20)>>=λa=>aV a [.Eq] [pure (V.int 0)]) [bD [pure (V.str 81)]>>=λas=>b8 P0 true 52 as] [])::(JB C)
abbrev JD(a0:V):Lo:=[some a0,none]
theorem JE(k n:Nat)(H:Hp)(a0:V):Rn (k+1) n (.ah 173) [a0] H=bk (ax (JC (Rn k n)) ⟨JD a0,H⟩):=rq (by kernel_rfl)
def JF:Lm:=(bj (aH P0 C ((ae 0)>>=gA P0 10) "unpin" [ae 1]))::[]
def JG(C:Ct):Lm:=((ae 0)>>=λo=>gA P0 21 o>>=λa=>(pure (V.int 1))>>=λb=>cE .Add a b>>=λr=>sA P0 21 o r>>=λ_=>pure .next)::[]
def JH:Lm:=(aE (alloc (.dict [])) (λv=>(ae 0)>>=λo=>sA P0 19 o v))::(JG C)
def JI:Lm:=(aE (listS []) (λv=>(ae 0)>>=λo=>sA P0 18 o v))::(JH C)
def JJ:Lm:=(dH ((ae 0)>>=gA P0 18) (aD 1) (JF C))::(JI C)
def JK:Lm:=(bj (aH P0 C (ae 0) "write_head" [listS []]))::(JJ C)
def JL:Lm:=(bj (aH P0 C (ae 0) "install" [(ae 0)>>=gA P0 18,pure (V.bool false)]))::(JK C)
def JM:Lm:=(bj (aH P0 C (ae 0) "write_head" [(ae 0)>>=gA P0 18]))::(JL C)
def JN:Lm:=(bj (aH P0 C (ae 0) "fill_log" []))::(JM C)
abbrev JO(a0:V):Lo:=[some a0,none]
theorem JP(k n:Nat)(H:Hp)(a0:V):Rn (k+1) n (.ah 180) [a0] H=bk (ax (JN (Rn k n)) ⟨JO a0,H⟩):=rq (by kernel_rfl)
def JQ:Lm:=(bj (aH P0 C ((ae 0)>>=gA P0 10) "poke" [aJ .Add (aJ .Add ((ae 0)>>=gA P0 11) (pure (V.int 1))) (ae 1),aH P0 C ((ae 0)>>=gA P0 10) "peek" [ae 2]]))::[]
def JR:Lm:=(bj (aH P0 C ((ae 0)>>=gA P0 10) "flush" []))::[]
def JS:Lm:=(iX ((ae 0)>>=gA P0 18) (dg [aD 1,aD 2]) (JQ C))::(JR C)
abbrev JT(a0:V):Lo:=[some a0,none,none,none]
theorem JU(k n:Nat)(H:Hp)(a0:V):Rn (k+1) n (.ah 187) [a0] H=bk (ax (JS (Rn k n)) ⟨JT a0,H⟩):=rq (by kernel_rfl)
def JV:Lm:=(bj (aH P0 C ((ae 0)>>=gA P0 10) "flush" []))::[]
def JW:Lm:=(bj (aH P0 C ((ae 0)>>=gA P0 10) "poke" [(ae 0)>>=gA P0 11,ay P0 C (V.ah 102) [ae 1,((ae 0)>>=gA P0 10)>>=gA P0 12]]))::(JV C)
noncomputable abbrev JX (a0:V) (a1:V):Lo:=[some a0,some a1,none]
theorem xK(k n:Nat)(H:Hp)(a0 a1:V):Rn (k+1) n (.ah 194) [a0,a1] H=bk (ax (JW (Rn k n)) ⟨JX a0 a1,H⟩):=rq (by kernel_rfl)
def JY:Lm:=(bj (aH P0 C ((ae 0)>>=gA P0 10) "poke" [ae 4,ae 5]))::[]
def JZ:Lm:=(aE (aH P0 C ((ae 0)>>=gA P0 10) "peek" [gQ ((ae 2)>>=truth) (aJ .Add (aJ .Add ((ae 0)>>=gA P0 11) (pure (V.int 1))) (ae 3)) (ae 4)]) (aD 5))::(JY C)
def J0:Lm:=(bj (aH P0 C ((ae 0)>>=gA P0 10) "flush" []))::[]
def J1:Lm:=(iX (ae 1) (dg [aD 3,aD 4]) (JZ C))::(J0 C)
noncomputable abbrev J2 (a0:V) (a1:V) (a2:V):Lo:=[some a0,some a1,some a2,none,none,none,none]
theorem xM(k n:Nat)(H:Hp)(a0 a1 a2:V):Rn (k+1) n (.ah 201) [a0,a1,a2] H=bk (ax (J1 (Rn k n)) ⟨J2 a0 a1 a2,H⟩):=rq (by kernel_rfl)
def J3:Lm:=(bz (allM .Or [(ae 3)>>=λa=>aV a [.GtE] [(((ae 0)>>=gA P0 10)>>=gA P0 8)>>=gA P0 7],(aH P0 C (ae 0) "is_own" [ae 3])>>=truth,(ae 3)>>=λa=>aV a [.In] [(ae 1)>>=λo=>pure none>>=λl=>((ae 2)>>=λv=>aX v>>=λi=>pure (some i))>>=λh=>fA o l h]]) [bD [pure (V.str 6)]>>=λas=>b8 P0 true 64 as] [])::[]
def J4(C:Ct):Lm:=(bP (ae 1))::[]
def J5:Lm:=(iX (ae 1) (dg [aD 2,aD 3]) (J3 C))::(J4 C)
def J6:Lm:=(aE (ay P0 C (V.ah 116) [aH P0 C ((ae 0)>>=gA P0 10) "peek" [(ae 0)>>=gA P0 11],(ae 0)>>=gA P0 13]) (aD 1))::(J5 C)
noncomputable abbrev J7 (a0:V):Lo:=[some a0,none,none,none,none,none,none]
theorem J8(k n:Nat)(H:Hp)(a0:V):Rn (k+1) n (.ah 208) [a0] H=bk (ax (J6 (Rn k n)) ⟨J7 a0,H⟩):=rq (by kernel_rfl)
def rQ(C:Ct):Lm:=(bP (ae 1))::[]
def J9:Lm:=(bz ((ae 1)>>=λa=>aV a [.NotEq] [listS []]) [bj (aH P0 C (ae 0) "install" [ae 1,pure (V.bool true)]),bj (aH P0 C (ae 0) "write_head" [listS []])] [])::(rQ C)
def Ka:Lm:=(aE (aH P0 C (ae 0) "pending" []) (aD 1))::(J9 C)
def Kb:Lm:=(bz (allM .Or [((ae 0)>>=gA P0 20)>>=λa=>aV a [.Gt] [pure (V.int 0)],((ae 0)>>=gA P0 18)>>=λa=>aV a [.NotEq] [listS []]]) [bD [pure (V.str 32)]>>=λas=>b8 P0 true 52 as] [])::(Ka C)
noncomputable abbrev Kc (a0:V):Lo:=[some a0,none,none]
theorem Kd(k n:Nat)(H:Hp)(a0:V):Rn (k+1) n (.ah 215) [a0] H=bk (ax (Kb (Rn k n)) ⟨Kc a0,H⟩):=rq (by kernel_rfl)
def Ke(C:Ct):Lm:=(aE (pure (V.int 0)) (λv=>(ae 0)>>=λo=>sA P0 38 o v))::[]
def Kf:Lm:=(aE (pure (V.int 0)) (λv=>(ae 0)>>=λo=>sA P0 37 o v))::(Ke C)
def Kg:Lm:=(aE (ay P0 C (V.ty "bytearray") [ae 2]) (λv=>(ae 0)>>=λo=>sA P0 36 o v))::(Kf C)
def Kh:Lm:=(aE (ae 1) (λv=>(ae 0)>>=λo=>sA P0 24 o v))::(Kg C)
noncomputable abbrev Ki (a0:V) (a1:V) (a2:V):Lo:=[some a0,some a1,some a2,none]
theorem Kj(k n:Nat)(H:Hp)(a0 a1 a2:V):Rn (k+1) n (.ah 236) [a0,a1,a2] H=bk (ax (Kh (Rn k n)) ⟨Ki a0 a1 a2,H⟩):=rq (by kernel_rfl)
def Kk(C:Ct):Lm:=(bP (gs .And [dY ((ae 0)>>=gA P0 37) [.Eq] [pure (V.int 0)],dY ((ae 0)>>=gA P0 38) [.Eq] [pure (V.int 0)]]))::[]
noncomputable abbrev Kl (a0:V):Lo:=[some a0]
theorem Km(k n:Nat)(H:Hp)(a0:V):Rn (k+1) n (.ah 243) [a0] H=bk (ax (Kk (Rn k n)) ⟨Kl a0,H⟩):=rq (by kernel_rfl)
def Kn:Lm:=(bP (ay P0 C (V.ty "bytes") [(ae 0)>>=gA P0 36]))::[]
noncomputable abbrev Ko (a0:V):Lo:=[some a0,none]
theorem Kp(k n:Nat)(H:Hp)(a0:V):Rn (k+1) n (.ah 250) [a0] H=bk (ax (Kn (Rn k n)) ⟨Ko a0,H⟩):=rq (by kernel_rfl)
def Kq(C:Ct):Lm:=(aE (ae 1) (λv=>((ae 0)>>=gA P0 36)>>=λo=>jr o v))::[]
def Kr:Lm:=(bz ((ay P0 C (V.bi "len") [ae 1])>>=λa=>aV a [.NotEq] [ay P0 C (V.bi "len") [(ae 0)>>=gA P0 36]]) [bD [pure (V.str 41)]>>=λas=>b8 P0 true 52 as] [])::(Kq C)
noncomputable abbrev Ks (a0:V) (a1:V):Lo:=[some a0,some a1,none,none]
theorem Kt(k n:Nat)(H:Hp)(a0 a1:V):Rn (k+1) n (.ah 278) [a0,a1] H=bk (ax (Kr (Rn k n)) ⟨Ks a0 a1,H⟩):=rq (by kernel_rfl)
def Ku(C:Ct):Lm:=(aE (pure (V.int 0)) (λv=>(ae 0)>>=λo=>sA P0 2 o v))::[]
def Kv:Lm:=(aE (pure (V.int 0)) (λv=>(ae 0)>>=λo=>sA P0 46 o v))::(Ku C)
def Kw:Lm:=(aE (pure (V.int 0)) (λv=>(ae 0)>>=λo=>sA P0 45 o v))::(Kv C)
def Kx:Lm:=(aE (alloc (.dict [])) (λv=>(ae 0)>>=λo=>sA P0 44 o v))::(Kw C)
def Ky:Lm:=(aE (listS []) (λv=>(ae 0)>>=λo=>sA P0 43 o v))::(Kx C)
def Kz:Lm:=(aE ((ae 1)>>=gA P0 12) (λv=>(ae 0)>>=λo=>sA P0 12 o v))::(Ky C)
def KA:Lm:=(aE (ae 2) (λv=>(ae 0)>>=λo=>sA P0 14 o v))::(Kz C)
def KC:Lm:=(aE (ae 1) (λv=>(ae 0)>>=λo=>sA P0 8 o v))::(KA C)
def KD:Lm:=(bz ((ae 2)>>=λa=>aV a [.Lt] [pure (V.int 1)]) [bD [pure (V.str 42)]>>=λas=>b8 P0 true 52 as] [])::(KC C)
noncomputable abbrev KG (a0:V) (a1:V) (a2:V):Lo:=[some a0,some a1,some a2,none]
theorem KH(k n:Nat)(H:Hp)(a0 a1 a2:V):Rn (k+1) n (.ah 334) [a0,a1,a2] H=bk (ax (KD (Rn k n)) ⟨KG a0 a1 a2,H⟩):=rq (by kernel_rfl)
def KI:Lm:=(bz (allM .Or [((ay P0 C (V.bi "isinstance") [ae 1,pure (V.ty "int")])>>=truth)>>=λb=>pure (!b),((pure (V.int 0))>>=λa=>aV a [.LtE,.Lt] [ae 1,((ae 0)>>=gA P0 8)>>=gA P0 7])>>=λb=>pure (!b)]) [bD [pure (V.str 47)]>>=λas=>b8 P0 true 64 as] [])::[]
noncomputable abbrev KJ (a0:V) (a1:V):Lo:=[some a0,some a1,none,none,none]
theorem KL(k n:Nat)(H:Hp)(a0 a1:V):Rn (k+1) n (.ah 341) [a0,a1] H=bk (ax (KI (Rn k n)) ⟨KJ a0 a1,H⟩):=rq (by kernel_rfl)
def KN:Lm:=(bz (allM .Or [(aH P0 C ((ae 0)>>=gA P0 44) "get" [(ae 1)>>=gA P0 24])>>=λa=>aV a [.IsNot] [ae 1],((ae 1)>>=gA P0 37)>>=λa=>aV a [.Eq] [pure (V.int 0)]]) [bD [pure (V.str 49)]>>=λas=>b8 P0 true 52 as] [])::[]
noncomputable abbrev KO (a0:V) (a1:V):Lo:=[some a0,some a1,none]
theorem KP(k n:Nat)(H:Hp)(a0 a1:V):Rn (k+1) n (.ah 348) [a0,a1] H=bk (ax (KN (Rn k n)) ⟨KO a0 a1,H⟩):=rq (by kernel_rfl)
def KQ(C:Ct):Lm:=(bP (ae 2))::[]
def KR:Lm:=((ae 2)>>=λo=>gA P0 37 o>>=λa=>(pure (V.int 1))>>=λb=>cE .Add a b>>=λr=>sA P0 37 o r>>=λ_=>pure .next)::(KQ C)
def KS:Lm:=(bz ((ae 2)>>=λa=>aV a [.Is] [pure V.none]) [bj (aH P0 C (ae 0) "make_room" []),aE (ay P0 C (V.ah 316) [ae 1,aH P0 C ((ae 0)>>=gA P0 8) "read" [ae 1]]) (aD 2),(ae 0)>>=λo=>gA P0 46 o>>=λa=>(pure (V.int 1))>>=λb=>cE .Add a b>>=λr=>sA P0 46 o r>>=λ_=>pure .next,aE (ae 2) (λv=>((ae 0)>>=gA P0 44)>>=λo=>(ae 1)>>=λi=>dN o i v),bj (aH P0 C ((ae 0)>>=gA P0 43) "append" [ae 2])] [(ae 0)>>=λo=>gA P0 45 o>>=λa=>(pure (V.int 1))>>=λb=>cE .Add a b>>=λr=>sA P0 45 o r>>=λ_=>pure .next])::(KR C)
def KU:Lm:=(aE (aH P0 C ((ae 0)>>=gA P0 44) "get" [ae 1]) (aD 2))::(KS C)
def KV:Lm:=(bj (aH P0 C (ae 0) "need_block" [ae 1]))::(KU C)
noncomputable abbrev KW (a0:V) (a1:V):Lo:=[some a0,some a1,none,none]
theorem KY(k n:Nat)(H:Hp)(a0 a1:V):Rn (k+1) n (.ah 355) [a0,a1] H=bk (ax (KV (Rn k n)) ⟨KW a0 a1,H⟩):=rq (by kernel_rfl)
def KZ:Lm:=(bz ((aH P0 C (ae 2) "is_free" [])>>=truth) [((ae 0)>>=gA P0 44)>>=λo=>((ae 2)>>=gA P0 24)>>=λi=>jt o i>>=λ_=>pure .next,((ae 0)>>=gA P0 43)>>=λo=>(ae 1)>>=λi=>jt o i>>=λ_=>pure .next,pure (.ret .none)] [])::[]
def K0(C:Ct):Lm:=(bD [pure (V.str 54)]>>=λas=>b8 P0 true 76 as)::[]
def K1:Lm:=(iX ((ae 0)>>=gA P0 43) (dg [aD 1,aD 2]) (KZ C))::(K0 C)
def K2:Lm:=(bz ((ay P0 C (V.bi "len") [(ae 0)>>=gA P0 43])>>=λa=>aV a [.Lt] [(ae 0)>>=gA P0 14]) [pure (.ret .none)] [])::(K1 C)
noncomputable abbrev K3 (a0:V):Lo:=[some a0,none,none,none,none,none]
theorem K4(k n:Nat)(H:Hp)(a0:V):Rn (k+1) n (.ah 362) [a0] H=bk (ax (K2 (Rn k n)) ⟨K3 a0,H⟩):=rq (by kernel_rfl)
def K5:Lm:=(bz (((ae 1)>>=gA P0 37)>>=λa=>aV a [.Eq] [pure (V.int 0)]) [bj (aH P0 C ((ae 0)>>=gA P0 43) "remove" [ae 1]),bj (aH P0 C ((ae 0)>>=gA P0 43) "append" [ae 1])] [])::[]
def K6:Lm:=((ae 1)>>=λo=>gA P0 37 o>>=λa=>(pure (V.int 1))>>=λb=>cE .Sub a b>>=λr=>sA P0 37 o r>>=λ_=>pure .next)::(K5 C)
def K7:Lm:=(bj (aH P0 C (ae 0) "need_held" [ae 1]))::(K6 C)
noncomputable abbrev K8 (a0:V) (a1:V):Lo:=[some a0,some a1]
theorem K9(k n:Nat)(H:Hp)(a0 a1:V):Rn (k+1) n (.ah 369) [a0,a1] H=bk (ax (K7 (Rn k n)) ⟨K8 a0 a1,H⟩):=rq (by kernel_rfl)
def La(C:Ct):Lm:=((ae 1)>>=λo=>gA P0 38 o>>=λa=>(pure (V.int 1))>>=λb=>cE .Add a b>>=λr=>sA P0 38 o r>>=λ_=>pure .next)::[]
def Lb:Lm:=(bj (aH P0 C (ae 0) "need_held" [ae 1]))::(La C)
abbrev Lc(a0:V)(a1:V):Lo:=[some a0,some a1]
theorem Ld(k n:Nat)(H:Hp)(a0 a1:V):Rn (k+1) n (.ah 376) [a0,a1] H=bk (ax (Lb (Rn k n)) ⟨Lc a0 a1,H⟩):=rq (by kernel_rfl)
def Le(C:Ct):Lm:=((ae 2)>>=λo=>gA P0 38 o>>=λa=>(pure (V.int 1))>>=λb=>cE .Sub a b>>=λr=>sA P0 38 o r>>=λ_=>pure .next)::[]
def Lf:Lm:=(bz (allM .Or [(ae 2)>>=λa=>aV a [.Is] [pure V.none],((ae 2)>>=gA P0 38)>>=λa=>aV a [.Eq] [pure (V.int 0)]]) [bD [pure (V.str 85)]>>=λas=>b8 P0 true 52 as] [])::(Le C)
def Lg:Lm:=(aE (aH P0 C ((ae 0)>>=gA P0 44) "get" [ae 1]) (aD 2))::(Lf C)
abbrev Lh(a0:V)(a1:V):Lo:=[some a0,some a1,none,none]
theorem Li(k n:Nat)(H:Hp)(a0 a1:V):Rn (k+1) n (.ah 383) [a0,a1] H=bk (ax (Lg (Rn k n)) ⟨Lh a0 a1,H⟩):=rq (by kernel_rfl)
def Lj(C:Ct):Lm:=((ae 0)>>=λo=>gA P0 2 o>>=λa=>(pure (V.int 1))>>=λb=>cE .Add a b>>=λr=>sA P0 2 o r>>=λ_=>pure .next)::[]
def Lk:Lm:=(bj (aH P0 C ((ae 0)>>=gA P0 8) "write" [(ae 1)>>=gA P0 24,aH P0 C (ae 1) "octets" []]))::(Lj C)
def Ll:Lm:=(bj (aH P0 C (ae 0) "need_held" [ae 1]))::(Lk C)
noncomputable abbrev Ln (a0:V) (a1:V):Lo:=[some a0,some a1]
theorem Lp(k n:Nat)(H:Hp)(a0 a1:V):Rn (k+1) n (.ah 390) [a0,a1] H=bk (ax (Ll (Rn k n)) ⟨Ln a0 a1,H⟩):=rq (by kernel_rfl)
def Lq:Lm:=(bj (aH P0 C ((ae 0)>>=gA P0 8) "flush" []))::[]
noncomputable abbrev Lr (a0:V):Lo:=[some a0]
theorem Ls(k n:Nat)(H:Hp)(a0:V):Rn (k+1) n (.ah 397) [a0] H=bk (ax (Lq (Rn k n)) ⟨Lr a0,H⟩):=rq (by kernel_rfl)
def Lu(C:Ct):Lm:=(bP (ae 3))::[]
def Lv:Lm:=(bj (aH P0 C (ae 0) "release" [ae 2]))::(Lu C)
def Lw:Lm:=(aE (aH P0 C (ae 2) "octets" []) (aD 3))::(Lv C)
def Lx:Lm:=(aE (aH P0 C (ae 0) "get" [ae 1]) (aD 2))::(Lw C)
noncomputable abbrev Ly (a0:V) (a1:V):Lo:=[some a0,some a1,none,none]
theorem Lz(k n:Nat)(H:Hp)(a0 a1:V):Rn (k+1) n (.ah 404) [a0,a1] H=bk (ax (Lx (Rn k n)) ⟨Ly a0 a1,H⟩):=rq (by kernel_rfl)
def LA:Lm:=(bj (aH P0 C (ae 0) "release" [ae 3]))::[]
def LB:Lm:=(bj (aH P0 C (ae 0) "write" [ae 3]))::(LA C)
def LC:Lm:=(bj (aH P0 C (ae 3) "fill" [ae 2]))::(LB C)
def LD:Lm:=(aE (aH P0 C (ae 0) "get" [ae 1]) (aD 3))::(LC C)
noncomputable abbrev LF (a0:V) (a1:V) (a2:V):Lo:=[some a0,some a1,some a2,none]
theorem LG(k n:Nat)(H:Hp)(a0 a1 a2:V):Rn (k+1) n (.ah 411) [a0,a1,a2] H=bk (ax (LD (Rn k n)) ⟨LF a0 a1 a2,H⟩):=rq (by kernel_rfl)
def LH(C:Ct):Lm:=(aE (pure (V.bool false)) (λv=>(ae 0)>>=λo=>sA P0 67 o v))::[]
def LI:Lm:=(aE (pure V.none) (λv=>(ae 0)>>=λo=>sA P0 66 o v))::(LH C)
def LJ:Lm:=(aE (pure V.none) (λv=>(ae 0)>>=λo=>sA P0 65 o v))::(LI C)
def LK:Lm:=(aE (pure (V.int 0)) (λv=>(ae 0)>>=λo=>sA P0 64 o v))::(LJ C)
def LL:Lm:=(aE (pure (V.int 0)) (λv=>(ae 0)>>=λo=>sA P0 2 o v))::(LK C)
def LM:Lm:=(aE (listS []) (λv=>(ae 0)>>=λo=>sA P0 63 o v))::(LL C)
def LN:Lm:=(aE (alloc (.dict [])) (λv=>(ae 0)>>=λo=>sA P0 62 o v))::(LM C)
def LO:Lm:=(aE (alloc (.dict [])) (λv=>(ae 0)>>=λo=>sA P0 61 o v))::(LN C)
def LP:Lm:=(aE (ae 2) (λv=>(ae 0)>>=λo=>sA P0 12 o v))::(LO C)
def LQ:Lm:=(aE (ae 1) (λv=>(ae 0)>>=λo=>sA P0 7 o v))::(LP C)
def LR:Lm:=(bz (allM .Or [(ae 1)>>=λa=>aV a [.Lt] [pure (V.int 1)],(ae 2)>>=λa=>aV a [.Lt] [pure (V.int 1)]]) [bD [pure (V.str 60)]>>=λas=>b8 P0 true 52 as] [])::(LQ C)
noncomputable abbrev LS (a0:V) (a1:V) (a2:V):Lo:=[some a0,some a1,some a2,none]
theorem LU(k n:Nat)(H:Hp)(a0 a1 a2:V):Rn (k+1) n (.ah 453) [a0,a1,a2] H=bk (ax (LR (Rn k n)) ⟨LS a0 a1 a2,H⟩):=rq (by kernel_rfl)
def LV(C:Ct):Lm:=(bz (((ae 0)>>=gA P0 67)>>=truth) [bD [(ae 0)>>=gA P0 2]>>=λas=>b8 P0 true 95 as] [])::[]
noncomputable abbrev LW (a0:V):Lo:=[some a0,none]
theorem LX(k n:Nat)(H:Hp)(a0:V):Rn (k+1) n (.ah 460) [a0] H=bk (ax (LV (Rn k n)) ⟨LW a0,H⟩):=rq (by kernel_rfl)
def LY:Lm:=(bz (allM .Or [((ay P0 C (V.bi "isinstance") [ae 1,pure (V.ty "int")])>>=truth)>>=λb=>pure (!b),((pure (V.int 0))>>=λa=>aV a [.LtE,.Lt] [ae 1,(ae 0)>>=gA P0 7])>>=λb=>pure (!b)]) [bD [no]>>=λas=>b8 P0 true 64 as] [])::[]
noncomputable abbrev LZ (a0:V) (a1:V):Lo:=[some a0,some a1,none,none,none]
theorem L1(k n:Nat)(H:Hp)(a0 a1:V):Rn (k+1) n (.ah 467) [a0,a1] H=bk (ax (LY (Rn k n)) ⟨LZ a0 a1,H⟩):=rq (by kernel_rfl)
def L2:Lm:=(bP (aH P0 C ((ae 0)>>=gA P0 62) "get" [ae 1,ay P0 C (V.ty "bytes") [(ae 0)>>=gA P0 12]]))::[]
def L4:Lm:=(bj (aH P0 C (ae 0) "need_block" [ae 1]))::(L2 C)
def L5:Lm:=(bj (aH P0 C (ae 0) "need_power" []))::(L4 C)
noncomputable abbrev L6 (a0:V) (a1:V):Lo:=[some a0,some a1,none]
theorem L7(k n:Nat)(H:Hp)(a0 a1:V):Rn (k+1) n (.ah 474) [a0,a1] H=bk (ax (L5 (Rn k n)) ⟨L6 a0 a1,H⟩):=rq (by kernel_rfl)
def L8:Lm:=(bj (aH P0 C ((ae 0)>>=gA P0 63) "append" [tupS [ae 1,ay P0 C (V.ty "bytes") [ae 2]]]))::[]
def L9:Lm:=(aE (ay P0 C (V.ty "bytes") [ae 2]) (λv=>((ae 0)>>=gA P0 62)>>=λo=>(ae 1)>>=λi=>dN o i v))::(L8 C)
def L':Lm:=((ae 0)>>=λo=>gA P0 2 o>>=λa=>(pure (V.int 1))>>=λb=>cE .Add a b>>=λr=>sA P0 2 o r>>=λ_=>pure .next)::(L9 C)
def Ma:Lm:=(bz (allM .And [((ae 0)>>=gA P0 65)>>=λa=>aV a [.IsNot] [pure V.none],((ae 0)>>=gA P0 2)>>=λa=>aV a [.GtE] [(ae 0)>>=gA P0 65]]) [bj (aH P0 C (ae 0) "fail" [])] [])::(L' C)
def Mb:Lm:=(bz ((ay P0 C (V.bi "len") [ae 2])>>=λa=>aV a [.NotEq] [(ae 0)>>=gA P0 12]) [bD [no]>>=λas=>b8 P0 true 64 as] [])::(Ma C)
def Mc:Lm:=(bj (aH P0 C (ae 0) "need_block" [ae 1]))::(Mb C)
def Md:Lm:=(bj (aH P0 C (ae 0) "need_power" []))::(Mc C)
noncomputable abbrev Me (a0:V) (a1:V) (a2:V):Lo:=[some a0,some a1,some a2,none,none,none]
theorem Mf(k n:Nat)(H:Hp)(a0 a1 a2:V):Rn (k+1) n (.ah 481) [a0,a1,a2] H=bk (ax (Md (Rn k n)) ⟨Me a0 a1 a2,H⟩):=rq (by kernel_rfl)
def Mg(C:Ct):Lm:=(bD [(ae 0)>>=gA P0 2]>>=λas=>b8 P0 true 95 as)::[]
def Mh:Lm:=(aE (pure (V.bool true)) (λv=>(ae 0)>>=λo=>sA P0 67 o v))::(Mg C)
noncomputable abbrev Mi (a0:V):Lo:=[some a0,none]
theorem Mj(k n:Nat)(H:Hp)(a0:V):Rn (k+1) n (.ah 488) [a0] H=bk (ax (Mh (Rn k n)) ⟨Mi a0,H⟩):=rq (by kernel_rfl)
def Mk(C:Ct):Lm:=(aE (ae 2) (λv=>((ae 0)>>=gA P0 61)>>=λo=>(ae 1)>>=λi=>dN o i v))::[]
def Ml(C:Ct):Lm:=(aE (listS []) (λv=>(ae 0)>>=λo=>sA P0 63 o v))::[]
def Mm:Lm:=(dH ((ae 0)>>=gA P0 63) (dg [aD 1,aD 2]) (Mk C))::(Ml C)
def Mn:Lm:=((ae 0)>>=λo=>gA P0 64 o>>=λa=>(pure (V.int 1))>>=λb=>cE .Add a b>>=λr=>sA P0 64 o r>>=λ_=>pure .next)::(Mm C)
def Mo:Lm:=(bz (allM .And [((ae 0)>>=gA P0 66)>>=λa=>aV a [.IsNot] [pure V.none],((ae 0)>>=gA P0 64)>>=λa=>aV a [.GtE] [(ae 0)>>=gA P0 66]]) [bj (aH P0 C (ae 0) "fail" [])] [])::(Mn C)
def Mp:Lm:=(bj (aH P0 C (ae 0) "need_power" []))::(Mo C)
noncomputable abbrev Mq (a0:V):Lo:=[some a0,none,none]
theorem Mr(k n:Nat)(H:Hp)(a0:V):Rn (k+1) n (.ah 495) [a0] H=bk (ax (Mp (Rn k n)) ⟨Mq a0,H⟩):=rq (by kernel_rfl)
def Ms(C:Ct):Lm:=(aE (aJ .Add ((ae 0)>>=gA P0 2) (ae 1)) (λv=>(ae 0)>>=λo=>sA P0 65 o v))::[]
def Mt:Lm:=(bz ((ae 1)>>=λa=>aV a [.Lt] [pure (V.int 0)]) [bD [pure (V.str 70)]>>=λas=>b8 P0 true 52 as] [])::(Ms C)
abbrev Mu(a0:V)(a1:V):Lo:=[some a0,some a1,none]
theorem Mv(k n:Nat)(H:Hp)(a0 a1:V):Rn (k+1) n (.ah 502) [a0,a1] H=bk (ax (Mt (Rn k n)) ⟨Mu a0 a1,H⟩):=rq (by kernel_rfl)
def Mw(C:Ct):Lm:=(aE (aJ .Add ((ae 0)>>=gA P0 64) (ae 1)) (λv=>(ae 0)>>=λo=>sA P0 66 o v))::[]
def Mx:Lm:=(bz ((ae 1)>>=λa=>aV a [.Lt] [pure (V.int 0)]) [bD [pure (V.str 70)]>>=λas=>b8 P0 true 52 as] [])::(Mw C)
noncomputable abbrev My (a0:V) (a1:V):Lo:=[some a0,some a1,none]
theorem Mz(k n:Nat)(H:Hp)(a0 a1:V):Rn (k+1) n (.ah 509) [a0,a1] H=bk (ax (Mx (Rn k n)) ⟨My a0 a1,H⟩):=rq (by kernel_rfl)
def MA:Lm:=(bz (((pure (V.int 0))>>=λa=>aV a [.LtE,.Lt] [ae 3,ay P0 C (V.bi "len") [(ae 0)>>=gA P0 63]])>>=λb=>pure (!b)) [bD [pure (V.str 71)]>>=λas=>b8 P0 true 52 as] [])::[]
def MB(C:Ct):Lm:=(bz ((ae 3)>>=λa=>aV a [.In] [ae 1]) [aE (ae 5) (λv=>((ae 2)>>=gA P0 61)>>=λo=>(ae 4)>>=λi=>dN o i v)] [])::[]
def MC(C:Ct):Lm:=(bP (ae 2))::[]
def MD:Lm:=(aE (ay P0 C (V.ty "dict") [(ae 2)>>=gA P0 61]) (λv=>(ae 2)>>=λo=>sA P0 62 o v))::(MC C)
def ME:Lm:=(iX ((ae 0)>>=gA P0 63) (dg [aD 3,dg [aD 4,aD 5]]) (MB C))::(MD C)
def MF:Lm:=(dH (ae 1) (aD 3) (MA C))::(ME C)
def MG:Lm:=(aE (ay P0 C (V.ty "dict") [(ae 0)>>=gA P0 61]) (λv=>(ae 2)>>=λo=>sA P0 61 o v))::(MF C)
def MH:Lm:=(aE (ay P0 C (V.ah 533) [(ae 0)>>=gA P0 7,(ae 0)>>=gA P0 12]) (aD 2))::(MG C)
noncomputable abbrev MI (a0:V) (a1:V):Lo:=[some a0,some a1,none,none,none,none,none,none,none,none,none]
theorem MJ(k n:Nat)(H:Hp)(a0 a1:V):Rn (k+1) n (.ah 516) [a0,a1] H=bk (ax (MH (Rn k n)) ⟨MI a0 a1,H⟩):=rq (by kernel_rfl)
def MK:Lm:=(aE (aJ .Mod (aJ .Add (aJ .Add (aJ .Mult (ae 1) (pure (V.int 1021))) (aJ .Mult (pure (V.int 2)) (ay P0 C (V.bi "abs") [ae 2]))) (ay P0 C (V.ty "int") [dY (ae 2) [.Lt] [pure (V.int 0)]])) (aJ .Pow (pure (V.int 10)) (pure (V.int 90)))) (aD 1))::[]
def ML(C:Ct):Lm:=(bP (listS [ae 1,pure (V.int 0)]))::[]
def MM:Lm:=(dH ((ae 0)>>=λo=>pure none>>=λl=>((pure (V.int 24))>>=λv=>aX v>>=λi=>pure (some i))>>=λh=>fA o l h) (aD 2) (MK C))::(ML C)
def MN:Lm:=(aE (pure (V.int 0)) (aD 1))::(MM C)
noncomputable abbrev MO (a0:V):Lo:=[some a0,none,none,none,none]
theorem MP(k n:Nat)(H:Hp)(a0:V):Rn (k+1) n (.ah 544) [a0] H=bk (ax (MN (Rn k n)) ⟨MO a0,H⟩):=rq (by kernel_rfl)
def MQ(C:Ct):Lm:=(bP (aJ .Mod (aJ .Mod (aJ .Add (aJ .Add (aJ .Mult (aJ .Mult (pure (V.int 7)) ((ae 0)>>=λo=>(pure (V.int 1))>>=λi=>cX o i)) ((ae 0)>>=λo=>(pure (V.int 1))>>=λi=>cX o i)) (aJ .Mult (pure (V.int 5)) ((ae 0)>>=λo=>(pure (V.int 1))>>=λi=>cX o i))) (pure (V.int 2))) (pure (V.int 1013))) (ae 1)))::[]
def MR:Lm:=((ae 0)>>=λo=>(pure (V.int 1))>>=λi=>cX o i>>=λa=>(pure (V.int 1))>>=λb=>cE .Add a b>>=λr=>dN o i r>>=λ_=>pure .next)::(MQ C)
def MS:Lm:=(bz (((ae 0)>>=λo=>(pure (V.int 0))>>=λi=>cX o i)>>=λa=>aV a [.Gt] [pure (V.int 0)]) [aE (aJ .Mod ((ae 0)>>=λo=>(pure (V.int 0))>>=λi=>cX o i) (ae 1)) (aD 2),aE (aJ .FloorDiv ((ae 0)>>=λo=>(pure (V.int 0))>>=λi=>cX o i) (ae 1)) (λv=>(ae 0)>>=λo=>(pure (V.int 0))>>=λi=>dN o i v),bP (ae 2)] [])::(MR C)
noncomputable abbrev MT (a0:V) (a1:V):Lo:=[some a0,some a1,none]
theorem MU(k n:Nat)(H:Hp)(a0 a1:V):Rn (k+1) n (.ah 551) [a0,a1] H=bk (ax (MS (Rn k n)) ⟨MT a0 a1,H⟩):=rq (by kernel_rfl)
def MV:Lm:=(bj (aH P0 C (ae 1) "write" [ae 2,ae 3]))::[]
def MW(C:Ct):Lm:=(bP (ae 1))::[]
def MX:Lm:=(bj (aH P0 C (ae 1) "flush" []))::(MW C)
def MY:Lm:=(iX (ae 0) (dg [aD 2,aD 3]) (MV C))::(MX C)
def MZ:Lm:=(aE (ay P0 C (V.ah 533) [ay P0 C (V.bi "len") [ae 0],pure (V.int 16)]) (aD 1))::(MY C)
abbrev M1(a0:V):Lo:=[some a0,none,none,none,none,none,none]
theorem M3(k n:Nat)(H:Hp)(a0:V):Rn (k+1) n (.ah 565) [a0] H=bk (ax (MZ (Rn k n)) ⟨M1 a0,H⟩):=rq (by kernel_rfl)
def rR:Lm:=(bj (aH P0 C (ae 4) "append" [tupS [ae 7,ay P0 C (V.ty "bytes") [aJ .Add (aJ .Mult (listS [ay P0 C (V.ah 551) [ae 0,pure (V.int 256)]]) (pure (V.int 15))) (listS [aJ .Add (pure (V.int 100)) (ae 6)])]]]))::[]
def M4:Lm:=(aE (gQ ((ae 6)>>=λa=>aV a [.Lt] [pure (V.int 2)]) (aJ .Add (pure (V.int 5)) (aJ .Mod (aJ .Add (ae 5) (ae 6)) (aJ .Sub (ae 2) (pure (V.int 5))))) (pure (V.int 0))) (aD 7))::(rR C)
def xN(C:Ct):Lm:=(bP (ae 4))::[]
def rS:Lm:=(bz (allM .And [(ae 1)>>=truth,(ay P0 C (V.ah 551) [ae 0,pure (V.int 2)])>>=λa=>aV a [.Eq] [pure (V.int 0)]]) [bj (aH P0 C (ae 4) "append" [tupS [((ae 4)>>=λo=>(pure (V.int 0))>>=λi=>cX o i)>>=λo=>(pure (V.int 0))>>=λi=>cX o i,ay P0 C (V.ty "bytes") [aJ .Add (aJ .Mult (listS [ay P0 C (V.ah 551) [ae 0,pure (V.int 256)]]) (pure (V.int 15))) (listS [pure (V.int 200)])]]])] [])::(xN C)
def xO:Lm:=(dH (ay P0 C (V.ty "range") [ae 3]) (aD 6) (M4 C))::(rS C)
def xP:Lm:=(aE (tupS [listS [],ay P0 C (V.ah 551) [ae 0,aJ .Sub (ae 2) (pure (V.int 5))]]) (dg [aD 4,aD 5]))::(xO C)
def M5:Lm:=(aE (aJ .Add (pure (V.int 1)) (gQ ((ae 1)>>=truth) (ay P0 C (V.ah 551) [ae 0,pure (V.int 3)]) (pure (V.int 0)))) (aD 3))::(xP C)
abbrev M6(a0:V)(a1:V)(a2:V):Lo:=[some a0,some a1,some a2,none,none,none,none,none,none,none,none]
theorem M7(k n:Nat)(H:Hp)(a0 a1 a2:V):Rn (k+1) n (.ah 572) [a0,a1,a2] H=bk (ax (M5 (Rn k n)) ⟨M6 a0 a1 a2,H⟩):=rq (by kernel_rfl)
def M8:Lm:=(bj (aH P0 C (ae 4) "begin" []))::[]
def xQ:Lm:=(bj (aH P0 C (ae 3) "release" [ae 8]))::[]
def M9:Lm:=(bj (aH P0 C (ae 4) "write" [ae 8]))::(xQ C)
def M':Lm:=(bj (aH P0 C (ae 8) "fill" [ae 7]))::(M9 C)
def xR:Lm:=(aE (aH P0 C (ae 3) "get" [ae 6]) (aD 8))::(M' C)
def Na:Lm:=(bj (aH P0 C (ae 4) "end" []))::[]
def xS:Lm:=(dH (ay P0 C (V.ty "range") [ae 2]) (aD 5) (Na C))::[]
def xT:Lm:=(dH (ae 1) (dg [aD 6,aD 7]) (xR C))::(xS C)
def rT:Lm:=(dH (ay P0 C (V.ty "range") [ae 2]) (aD 5) (M8 C))::(xT C)
def Nb:Lm:=(aE (ay P0 C (V.ah 218) [ae 3,pure (V.int 1),pure (V.int 4),pure (V.int 1)]) (aD 4))::(rT C)
def Nc:Lm:=(aE (ay P0 C (V.ah 435) [ae 0,pure (V.int 8)]) (aD 3))::(Nb C)
def oj(C:Ct):Lm:=(bP (pure (V.bool false)))::[]
def Nd:Lm:=(attempt (ax (Nc C)) (λc=>mw P0 c 95 [bP (pure (V.bool true))] (no)))::(oj C)
abbrev Nf(a0:V)(a1:V)(a2:V):Lo:=[some a0,some a1,some a2,none,none,none,none,none,none,none,none,none,none]
theorem Ng(k n:Nat)(H:Hp)(a0 a1 a2:V):Rn (k+1) n (.ah 579) [a0,a1,a2] H=bk (ax (Nd (Rn k n)) ⟨Nf a0 a1 a2,H⟩):=rq (by kernel_rfl)
def Nh:Lm:=(bP (aJ .Add (listS [aH P0 C (dM 0) "read" [pure (V.int 0)]]) (gu P0 (ik [none,none,some 0]) (ay P0 C (V.ty "range") [pure (V.int 5),(dM 0)>>=gA P0 7]) (aD 1) [] (aH P0 C (dM 2) "read" [ae 1]))))::[]
abbrev Ni(a0:V)(c0:Nat):Lo:=[some (.ref c0),none]
theorem Nj(k n:Nat)(H:Hp)(a0:V):Rn (k+1) n (.ah 584) [a0] H=bk (ax (Nh (Rn k n)) ⟨Ni a0 H.length,H++[O.cell (some a0)]⟩):=by kernel_rfl
def Nk(C:Ct):Lm:=(aE (ae 4) (λv=>(ae 2)>>=λo=>(ae 3)>>=λi=>dN o i v))::[]
def Nl(C:Ct):Lm:=(bP (aJ .Add (listS [(ae 2)>>=λo=>(pure (V.int 0))>>=λi=>cX o i]) ((ae 2)>>=λo=>((pure (V.int 5))>>=λv=>aX v>>=λi=>pure (some i))>>=λl=>pure none>>=λh=>fA o l h)))::[]
def Nm:Lm:=(dH (ae 1) (dg [aD 3,aD 4]) (Nk C))::(Nl C)
def Nn:Lm:=(aE (ay P0 C (V.ty "list") [ae 0]) (aD 2))::(Nm C)
abbrev Nq(a0:V)(a1:V):Lo:=[some a0,some a1,none,none,none,none]
theorem Nr(k n:Nat)(H:Hp)(a0 a1:V):Rn (k+1) n (.ah 591) [a0,a1] H=bk (ax (Nn (Rn k n)) ⟨Nq a0 a1,H⟩):=rq (by kernel_rfl)
def Nt:Lm:=(bP (gu P0 (ik [none,none,some 0]) (ay P0 C (V.ty "range") [ae 1]) (aD 1) [(aJ .BitAnd (aJ .RShift (dM 2) (ae 1)) (pure (V.int 1)))>>=λa=>aV a [.Eq] [pure (V.int 1)]] (ae 1)))::[]
abbrev Nu(a0:V)(a1:V)(c0:Nat):Lo:=[some (.ref c0),some a1,none]
theorem Nv(k n:Nat)(H:Hp)(a0 a1:V):Rn (k+1) n (.ah 596) [a0,a1] H=bk (ax (Nt (Rn k n)) ⟨Nu a0 a1 H.length,H++[O.cell (some a0)]⟩):=by kernel_rfl
def Nw:Lm:=(bz ((ae 7)>>=λa=>aV a [.NotIn] [ae 6]) [bj (aH P0 C (ae 6) "append" [ae 7])] [])::[]
def Nx:Lm:=(bz (allM .Or [(ae 16)>>=λa=>aV a [.NotEq] [gQ ((ae 15)>>=truth) (ae 6) (listS [])],(ay P0 C (V.ah 584) [ae 13])>>=λa=>aV a [.NotEq] [gQ ((ae 14)>>=truth) (ae 10) (ae 9)]]) [bP (pure (V.bool false))] [])::[]
def rU:Lm:=(aE (aH P0 C (ay P0 C (V.ah 218) [ay P0 C (V.ah 435) [ae 13,pure (V.int 8)],pure (V.int 1),pure (V.int 4)]) "recover" []) (aD 16))::(Nx C)
def xU:Lm:=(bz ((ae 3)>>=truth) [aE (tupS [gs .Or [dY (ae 4) [.Gt] [pure (V.int 1)],gs .And [dY (ae 4) [.Eq] [pure (V.int 1)],dY (ae 12) [.Eq] [pure (V.int 1)]]],gs .Or [gs .And [dY (ae 4) [.Eq] [pure (V.int 1)],dY (ae 12) [.Eq] [pure (V.int 1)]],dY (ae 4) [.Eq] [pure (V.int 2)],gs .And [dY (ae 4) [.Eq] [pure (V.int 3)],dY (ae 12) [.Eq] [pure (V.int 0)]]]]) (dg [aD 14,aD 15])] [aE (tupS [dY (ae 4) [.Gt] [ay P0 C (V.bi "len") [ae 6]],dY (ae 4) [.Gt] [ay P0 C (V.bi "len") [ae 6]]]) (dg [aD 14,aD 15])])::(rU C)
def xV:Lm:=(aE (aH P0 C (ae 5) "after" [ay P0 C (V.ah 596) [ae 12,ae 11]]) (aD 13))::(xU C)
def Ny(C:Ct):Lm:=(bP (pure (V.bool true)))::[]
def rV:Lm:=(dH (ay P0 C (V.ty "range") [aJ .LShift (pure (V.int 1)) (ae 11)]) (aD 12) (xV C))::(Ny C)
def xW:Lm:=(aE (tupS [aJ .Add (listS [(ae 0)>>=λo=>(pure (V.int 0))>>=λi=>cX o i]) ((ae 0)>>=λo=>((pure (V.int 5))>>=λv=>aX v>>=λi=>pure (some i))>>=λl=>pure none>>=λh=>fA o l h),ay P0 C (V.ah 591) [ae 0,ae 1],ay P0 C (V.bi "len") [(ae 5)>>=gA P0 63]]) (dg [aD 9,aD 10,aD 11]))::(rV C)
def xX:Lm:=(bz (((ay P0 C (V.ah 579) [ae 5,ae 1,ae 2])>>=truth)>>=λb=>pure (!b)) [bP (pure (V.bool false))] [])::(xW C)
def xY:Lm:=(bz ((ae 3)>>=truth) [bj (aH P0 C (ae 5) "stop_at_flush" [ae 4])] [bj (aH P0 C (ae 5) "stop_after" [ae 4])])::(xX C)
def rW:Lm:=(dH (ae 1) (dg [aD 7,aD 8]) (Nw C))::(xY C)
def Nz:Lm:=(aE (tupS [ay P0 C (V.ah 565) [ae 0],listS []]) (dg [aD 5,aD 6]))::(rW C)
abbrev NA(a0:V)(a1:V)(a2:V)(a3:V)(a4:V):Lo:=[some a0,some a1,some a2,some a3,some a4,none,none,none,none,none,none,none,none,none,none,none,none,none,none,none,none,none,none,none,none,none]
theorem NB(k n:Nat)(H:Hp)(a0 a1 a2 a3 a4:V):Rn (k+1) n (.ah 603) [a0,a1,a2,a3,a4] H=bk (ax (Nz (Rn k n)) ⟨NA a0 a1 a2 a3 a4,H⟩):=rq (by kernel_rfl)
def NC:Lm:=(bz (((ay P0 C (V.ah 603) [ae 4,ae 5,ae 6,pure (V.bool true),ae 9])>>=truth)>>=λb=>pure (!b)) [bP (pure (V.bool false))] [])::[]
def ND:Lm:=(bz (((ay P0 C (V.ah 603) [ae 4,ae 5,ae 6,pure (V.bool false),ae 9])>>=truth)>>=λb=>pure (!b)) [bP (pure (V.bool false))] [])::[]
def xZ(C:Ct):Lm:=(bP (pure (V.bool true)))::[]
def NF:Lm:=(dH (gQ ((ae 2)>>=truth) (ay P0 C (V.ty "range") [aJ .Add (aJ .Mult (pure (V.int 2)) (ae 8)) (pure (V.int 2))]) (listS [])) (aD 9) (ND C))::(xZ C)
def NG:Lm:=(dH (ay P0 C (V.ty "range") [pure (V.int 4)]) (aD 9) (NC C))::(NF C)
def mx:Lm:=(aE (ay P0 C (V.bi "len") [ay P0 C (V.ty "set") [gu P0 (ik [none,none,none]) (ae 5) (dg [aD 1,aD 2]) [] (ae 1)]]) (aD 8))::(NG C)
def ya:Lm:=(bz (allM .Or [(ay P0 C (V.ah 579) [ae 7,ae 5,ae 6])>>=truth,(ay P0 C (V.ah 584) [ae 7])>>=λa=>aV a [.NotEq] [ay P0 C (V.ah 591) [ae 4,ae 5]]]) [bP (pure (V.bool false))] [])::(mx C)
def yb:Lm:=(aE (ay P0 C (V.ah 565) [ae 4]) (aD 7))::(ya C)
def NH:Lm:=(aE (aJ .Add (pure (V.int 1)) (gQ ((ae 2)>>=truth) (ay P0 C (V.ah 551) [dM 1,pure (V.int 2)]) (pure (V.int 0)))) (aD 6))::(yb C)
def yc:Lm:=(aE (ay P0 C (V.ah 572) [dM 1,ae 2,ae 3]) (aD 5))::(NH C)
def NI:Lm:=(aE (ay P0 C (V.ty "bytes") [pure (V.int 16)]) (λv=>(ae 4)>>=λo=>(pure (V.int 1))>>=λi=>dN o i v))::(yc C)
def NJ:Lm:=(aE (gu P0 (ik [none,none,none,none,some 1]) (ay P0 C (V.ty "range") [ae 3]) (aD 1) [] (ay P0 C (V.ty "bytes") [aJ .Add (aJ .Mult (listS [ay P0 C (V.ah 551) [dM 4,pure (V.int 256)]]) (pure (V.int 15))) (listS [ae 1])])) (aD 4))::(NI C)
def NK:Lm:=(aE (aJ .Add (pure (V.int 7)) (ay P0 C (V.ah 551) [dM 1,pure (V.int 3)])) (aD 3))::(NJ C)
def yd:Lm:=(aE (tupS [ay P0 C (V.ah 544) [ae 0],dY (ay P0 C (V.bi "len") [ae 0]) [.Gt] [pure (V.int 1)]]) (dg [lA 1,aD 2]))::(NK C)
abbrev ye(a0:V)(c0:Nat):Lo:=[some a0,some (.ref c0),none,none,none,none,none,none,none,none,none,none,none,none,none,none,none,none,none,none,none,none]
theorem NM(k n:Nat)(H:Hp)(a0:V):Rn (k+1) n (.ah 608) [a0] H=bk (ax (yd (Rn k n)) ⟨ye a0 H.length,H++[O.cell none]⟩):=by kernel_rfl
end
theorem rX{x:Int}(h0:0<=x)(h:x<=100000+1):x.natAbs<2 ^ 64:=by
 obtain⟨k,rfl⟩:=abf h0
 exact aba (abg.mp h) (by decide)
theorem jH(m:Nat):4*(m+1)/4=m+1:=agR _ (by decide)
theorem tn{x:Int}(h:0<=x):x=(x.toNat:Int):=(afp h).symm
theorem oq{x:Int}(h:0<=x):(x.toNat:Int)=x:=afp h
theorem NN{x:Int}{n:Nat}(h:0<=x)(h2:x<(n:Int)):x.toNat<n:=acG.mp (lt_of_eq_of_lt (oq h) h2)
theorem kle{n k:Nat}(j:Nat)(h:n<=j)(e:acT j k=true):n<=k:=aah h (abR e)
theorem t4{S:Int}(h:4<=S):4+(S-4).toNat=S.toNat:=by
 obtain⟨k,rfl⟩:=abf (abX (by decide) h)
 rw[show((k:Int) -4).toNat=k-4 from agQ k 4]
 exact ahW (abg.mp h)
theorem m4{S:Int}{m:Nat}(e:S=(4*(m+1):Nat)):min 4 S.toNat=4:=by
 rw[e];exact acp (agS 4 (adL m))
theorem NO{c m:Nat}(h:c<=m):min c (4*(m+1)/4-1)=c:=by rw[jH];exact acp h
theorem NP{c:Int}{m:Nat}(h:¬ ((4*(m+1)/4:Nat):Int)<=c):c<=m:=by
 rw[jH]at h;exact ahD (adf.mp h)
theorem NQ{j:Nat}(h:j<4):3-j+1=4-j:=(Nat.succ_sub (aew h)).symm
theorem yf{S:Int}{x:Nat}(h:(x:Int)<=S):x+(S-(x:Int)).toNat=S.toNat:=by
 obtain⟨k,rfl⟩:=abf (abX (aaL x) h)
 rw[agQ];exact ahW (abg.mp h)
def Wq{α:Type}(r:R α)(Q:α->Sp)(X:Xp):Prop:=match r with
 | .ok a s=>Q a s
 | .exc c s=>X c s.H
 | .no=>False
def Cq(r:CR)(Q:Qh)(X:Xp):Prop:=match r with
 | .ok v H=>Q v H
 | .exc c H=>X c H
 | .no=>False
abbrev nx:Xp:=λ_ _=>False
/-! what an answer must meet,in named parts:no binder,so nothing is stored twice -/
section
variable {α β:Type}
abbrev NR(k:β->M α)(Q:α->Sp)(X:Xp):β->Sp:=λa s=>Wq (k a s) Q X
abbrev yg(Q:Fl->Sp):α->Sp:=λ_ s=>Q .next s
abbrev NS(t:V->M Unit)(Q:Fl->Sp)(X:Xp):V->Sp:=λx s=>Wq (t x s) (yg Q) X
abbrev NT(Q:Fl->Sp):V->Sp:=λx s=>Q (.ret x) s
abbrev NU(a b:Lm)(Q:Fl->Sp)(X:Xp):Bool->Sp:=λx s=>Wq ((match x with |true=>ax a |false=>ax b) s) Q X
abbrev my(Q:Fl->Sp):Bool->Sp:=λx s=>x=false∧Q .next s
abbrev NV(a:Lm)(Q:Fl->Sp)(X:Xp):Bool->Sp:=λx s=>x=true∧Wq (ax a s) Q X
abbrev NW(a b:M α)(Q:α->Sp)(X:Xp):Bool->Sp:=λx s=>Wq ((match x with |true=>a |false=>b) s) Q X
abbrev opQ(op:abZ)(a:V)(Q:V->Sp)(X:Xp):V->Sp:=λb s=>Wq (binop op a b s) Q X
abbrev NX(op:abZ)(r:M V)(Q:V->Sp)(X:Xp):V->Sp:=λa s=>Wq (r s) (opQ op a Q X) X
abbrev yh(op:CmpOp)(a:V)(Q:Bool->Sp)(X:Xp):V->Sp:=λb s=>Wq (cF op a b s) Q X
abbrev NY(Q:V->Sp):Bool->Sp:=λt s=>Q (.bool t) s
abbrev NZ(op:CmpOp)(r:M V)(Q:V->Sp)(X:Xp):V->Sp:=λa s=>Wq (r s) (yh op a (NY Q) X) X
abbrev N0(b:V)(op2:CmpOp)(r2:M V)(Q:Bool->Sp)(X:Xp):Bool->Sp:=λx s=>Wq ((match x with |true=>aV b [op2] [r2] |false=>aak false) s) Q X
abbrev N1(op:CmpOp)(a:V)(op2:CmpOp)(r2:M V)(Q:Bool->Sp)(X:Xp):V->Sp:=λb s=>Wq (cF op a b s) (N0 b op2 r2 Q X) X
abbrev N2(v:V)(Q:List V->Sp):List V->Sp:=λvs s=>Q (v::vs) s
abbrev N3(ms:List (M V))(Q:List V->Sp)(X:Xp):V->Sp:=λv s=>Wq (Lite.bD ms s) (N2 v Q) X
abbrev N4(C:Ct)(f:V)(Q:V->Sp)(X:Xp):List V->Sp:=λas s=>Wq (aP P0 C true f as s) Q X
abbrev N5(C:Ct)(f:V×List V)(Q:V->Sp)(X:Xp):List V->Sp:=λas s=>Wq (aP P0 C true f.1 (f.2++as) s) Q X
abbrev N6(C:Ct)(args:List (M V))(Q:V->Sp)(X:Xp):V×List V->Sp:=λfm s=>Wq (Lite.bD args s) (N5 C fm Q X) X
abbrev N7(C:Ct)(nm:Str)(args:List (M V))(Q:V->Sp)(X:Xp):V->Sp:=λov s=>Wq (getM P0 ov nm s) (N6 C args Q X) X
abbrev ot(lo:Lo)(Q:V->Sp):Qh:=λv H=>Q v ⟨lo,H⟩
abbrev yi(lo:Lo)(a:Nat)(Q:V->Sp):Qh:=λv H=>v=.none∧Q (.ref a) ⟨lo,H⟩
abbrev jI(body:Lm)(Q:Fl->Sp)(X:Xp):α->Sp:=λ_ s=>Wq (ax body s) Q X
end
section
variable {α β:Type} {Q:α->Sp} {X:Xp} {lo:Lo} {H:Hp}
theorem Wq.mono{r:R α}{Q':α->Sp}{X':Xp}(h:Wq r Q X)(k:∀ a s,Q a s->Q' a s)(kx:∀ c H,X c H->X' c H):Wq r Q' X':=by
 cases r with
 |ok a s=>exact k _ _ h
 |exc c s=>exact kx _ _ h
 |no=>exact h
theorem Cq.mono{r:CR}{Q Q':Qh}{X X':Xp}(h:Cq r Q X)(k:∀ a s,Q a s->Q' a s)(kx:∀ c H,X c H->X' c H):Cq r Q' X':=by
 cases r with
 |ok a s=>exact k _ _ h
 |exc c s=>exact kx _ _ h
 |no=>exact h
theorem af{m:M β}{k:β->M α}(h:Wq (m ⟨lo,H⟩) (NR k Q X) X):Wq ((m>>=k) ⟨lo,H⟩) Q X:=by
 show Wq (M.bind m k ⟨lo,H⟩) Q X
 unfold M.bind
 cases e:m ⟨lo,H⟩ with
 |ok a s=>rw[e]at h;exact h
 |exc c s=>rw[e]at h;exact h
 |no=>rw[e]at h;exact h
theorem aq{a:α}(h:Q a ⟨lo,H⟩):Wq ((aak a:M α) ⟨lo,H⟩) Q X:=h
theorem bp{b:Bool}{Q:Unit->Sp}(hb:b=true)(h:Q () ⟨lo,H⟩):Wq (Lite.guard b ⟨lo,H⟩) Q X:=by rw[hb];exact h
theorem bJ{o:Option α}{a:α}(e:o=some a)(h:Q a ⟨lo,H⟩):Wq (Lite.aG o ⟨lo,H⟩) Q X:=by rw[e];exact h
theorem ou{Q:V->Sp}{o:O}(h:Q (.ref H.length) ⟨lo,H++[o]⟩):Wq (Lite.alloc o ⟨lo,H⟩) Q X:=h
theorem gx{Q:O->Sp}{a:Nat}{o:O}(e:H[a]? =some o)(h:Q o ⟨lo,H⟩):Wq (Lite.obj a ⟨lo,H⟩) Q X:=by unfold Lite.obj;rw[e];exact h
theorem mz{γ:Type}{F:O->Option γ}{Q:γ->Sp}{a:Nat}{o:O}{x:γ}(e:H[a]? =some o)(e2:F o=some x)(h:Q x ⟨lo,H⟩):Wq (Lite.dy F a ⟨lo,H⟩) Q X:=by
 unfold Lite.dy
 rw[show(St.mk lo H).H[a]?.bind F=some x from(congrArg (ahi · F) e).trans e2];exact h
theorem il{Q:List V->Sp}{a:Nat}{xs:List V}(e:H[a]? =some (.list xs))(h:Q xs ⟨lo,H⟩):Wq (Lite.bV a ⟨lo,H⟩) Q X:=mz e rfl h
theorem yj{Q:List V->Sp}{a:Nat}{xs:List V}(e:H[a]? =some (.tuple xs))(h:Q xs ⟨lo,H⟩):Wq (Lite.iI a ⟨lo,H⟩) Q X:=mz e rfl h
theorem rY{Q:List (Int×V)->Sp}{a:Nat}{xs:List (Int×V)}(e:H[a]? =some (.dict xs))(h:Q xs ⟨lo,H⟩):Wq (Lite.dictAt a ⟨lo,H⟩) Q X:=mz e rfl h
theorem yk{Q:By->Sp}{a:Nat}{xs:By}(e:H[a]? =some (.bG xs))(h:Q xs ⟨lo,H⟩):Wq (Lite.iJ a ⟨lo,H⟩) Q X:=mz e rfl h
theorem yl{Q:Addr×List (Nat×V)->Sp}{a:Nat}{C:Addr}{fs:List (Nat×V)}(e:H[a]? =some (.inst C fs))(h:Q (C,fs) ⟨lo,H⟩):Wq (Lite.gH a ⟨lo,H⟩) Q X:=mz e rfl h
theorem mA{Q:Unit->Sp}{a:Nat}{o:O}(h:Q () ⟨lo,H.set a o⟩):Wq (Lite.put a o ⟨lo,H⟩) Q X:=h
theorem aj{Q:V->Sp}{i:Nat}{v:V}(e:lo[i]? =some (some v))(h:Q v ⟨lo,H⟩):Wq (Lite.ae i ⟨lo,H⟩) Q X:=by unfold Lite.ae;rw[e];exact h
theorem aF{Q:Unit->Sp}{i:Nat}{v:V}(h:Q () ⟨lo.set i (some v),H⟩):Wq (Lite.aD i v ⟨lo,H⟩) Q X:=h
theorem rZ{i c:Nat}{w:Option V}(e:lo[i]? =some (some (.ref c)))(e2:H[c]? =some (.cell w)):gI i ⟨lo,H⟩=some (c,w):=by
 unfold gI
 rw[e]
 show(ahi H[c]? oCell).map _=_
 rw[e2];rfl
theorem iY{Q:V->Sp}{i c:Nat}{v:V}(e:lo[i]? =some (some (.ref c)))(e2:H[c]? =some (.cell (some v)))(h:Q v ⟨lo,H⟩):Wq (Lite.dM i ⟨lo,H⟩) Q X:=by
 unfold Lite.dM;rw[rZ e e2];exact h
theorem ym{Q:Unit->Sp}{i c:Nat}{v:V}{w:Option V}(e:lo[i]? =some (some (.ref c)))(e2:H[c]? =some (.cell w))(h:Q () ⟨lo,H.set c (.cell (some v))⟩):Wq (Lite.lA i v ⟨lo,H⟩) Q X:=by
 unfold Lite.lA;rw[rZ e e2];exact h
theorem yn{C:Ct}{Q:V->Sp}{f:V}{args:List V}(h:Cq (C f args H) (ot lo Q) X):Wq (Lite.call C true f args ⟨lo,H⟩) Q X:=by
 show Wq (match C f args H with | .ok v H=>R.ok v ⟨lo,H⟩ | .exc c H=>.exc c ⟨lo,H⟩ | .no=>.no) Q X
 cases e:C f args H with
 |ok v H=>rw[e]at h;exact h
 |exc c H=>rw[e]at h;exact h
 |no=>rw[e]at h;exact h
end
section
variable {X:Xp} {lo:Lo} {H:Hp} {C:Ct}
theorem fj{Q:Fl->Sp}(h:Q .next ⟨lo,H⟩):Wq (ax [] ⟨lo,H⟩) Q X:=h
def bQ(ss:Lm)(Q:Fl->Sp)(X:Xp):Fl->Sp
 | .next,s=>Wq (ax ss s) Q X
 | .ret v,s=>Q (.ret v) s
theorem ag{Q:Fl->Sp}{m:M Fl}{ms:Lm}(h:Wq (m ⟨lo,H⟩) (bQ ms Q X) X):Wq (ax (m::ms) ⟨lo,H⟩) Q X:=
 af (h.mono (λa s q=>by cases a<;>exact q) λ_ _ q=>q)
def cP(Q:Qh):Fl->Sp
 | .next,s=>Q .none s.H
 | .ret v,s=>Q v s.H
theorem Cq.fin{r:R Fl}{Q:Qh}(h:Wq r (cP Q) X):Cq (bk r) Q X:=by
 cases r with
 |ok a s=>cases a<;>exact h
 |exc c s=>exact h
 |no=>exact h
theorem aY{Q:Fl->Sp}{v:M V}{t:V->M Unit}(h:Wq (v ⟨lo,H⟩) (NS t Q X) X):Wq (Lite.aE v t ⟨lo,H⟩) Q X:=af (h.mono (λ_ _ q=>af q) λ_ _ q=>q)
theorem bh{Q:Fl->Sp}{v:M V}(h:Wq (v ⟨lo,H⟩) (yg Q) X):Wq (Lite.bj v ⟨lo,H⟩) Q X:=af h
theorem cQ{Q:Fl->Sp}{v:M V}(h:Wq (v ⟨lo,H⟩) (NT Q) X):Wq (Lite.bP v ⟨lo,H⟩) Q X:=af h
theorem cR{Q:Fl->Sp}{t:M Bool}{a b:Lm}(h:Wq (t ⟨lo,H⟩) (NU a b Q X) X):Wq (Lite.bz t a b ⟨lo,H⟩) Q X:=by
 refine af (h.mono (λx s q=>?_) λ_ _ q=>q)
 cases x<;>exact q
theorem dC{Q:Fl->Sp}{t:M Bool}{a:Lm}(h:Wq (t ⟨lo,H⟩) (my Q) X):Wq (Lite.bz t a [] ⟨lo,H⟩) Q X:=
 cR (h.mono (λx s q=>by obtain⟨rfl,q⟩:=q;exact q) λ_ _ q=>q)
theorem N8{Q:Fl->Sp}{t:M Bool}{a b:Lm}(h:Wq (t ⟨lo,H⟩) (NV a Q X) X):Wq (Lite.bz t a b ⟨lo,H⟩) Q X:=
 cR (h.mono (λx s q=>by obtain⟨rfl,q⟩:=q;exact q) λ_ _ q=>q)
theorem gR{α:Type}{Q:α->Sp}{t:M Bool}{a b:M α}(h:Wq (t ⟨lo,H⟩) (NW a b Q X) X):Wq (Lite.gQ t a b ⟨lo,H⟩) Q X:=by
 refine af (h.mono (λx s q=>?_) λ_ _ q=>q)
 cases x<;>exact q
variable {Q:V->Sp}
theorem aZ{op:abZ}{l r:M V}(h:Wq (l ⟨lo,H⟩) (NX op r Q X) X):Wq (Lite.aJ op l r ⟨lo,H⟩) Q X:=af (h.mono (λ_ _ q=>af q) λ_ _ q=>q)
theorem bu{Q:Bool->Sp}{a:V}{op:CmpOp}{r:M V}(h:Wq (r ⟨lo,H⟩) (yh op a Q X) X):Wq (aV a [op] [r] ⟨lo,H⟩) Q X:=af (h.mono (λ_ _ q=>af q) λ_ _ q=>q)
theorem jJ{l r:M V}{op:CmpOp}(h:Wq (l ⟨lo,H⟩) (NZ op r Q X) X):Wq (dY l [op] [r] ⟨lo,H⟩) Q X:=af (h.mono (λ_ _ q=>af (bu q)) λ_ _ q=>q)
theorem mB{Q:Bool->Sp}{a:V}{op op2:CmpOp}{r r2:M V}(h:Wq (r ⟨lo,H⟩) (N1 op a op2 r2 Q X) X):Wq (aV a [op,op2] [r,r2] ⟨lo,H⟩) Q X:=
 af (h.mono (λb s q=>af (q.mono (λx s'' q=>by cases x<;>exact q) λ_ _ q=>q)) λ_ _ q=>q)
theorem ar{Q:List V->Sp}(h:Q [] ⟨lo,H⟩):Wq (bD [] ⟨lo,H⟩) Q X:=h
theorem au{Q:List V->Sp}{m:M V}{ms:List (M V)}(h:Wq (m ⟨lo,H⟩) (N3 ms Q X) X):Wq (Lite.bD (m::ms) ⟨lo,H⟩) Q X:=by
 exact af (h.mono (λ_ _ q=>af q) λ_ _ q=>q)
theorem aR{f:V}{args:List (M V)}(h:Wq (Lite.bD args ⟨lo,H⟩) (N4 C f Q X) X):Wq (Lite.ay P0 C f args ⟨lo,H⟩) Q X:=af h
theorem kN{o:M V}{nm:Str}{args:List (M V)}(h:Wq (o ⟨lo,H⟩) (N7 C nm args Q X) X):Wq (Lite.aH P0 C o nm args ⟨lo,H⟩) Q X:=
 af (h.mono (λ_ _ q=>af (q.mono (λ_ _ q=>af q) λ_ _ q=>q)) λ_ _ q=>q)
theorem gS{k:Nat}{a:Nat}{D:Addr}{fs:List (Nat×V)}{r:V}(e:H[a]? =some (.inst D fs))(e1:P0.cD.contains (D,k)=true)(e2:fs.lookup k=some r)(e3:kh r=true)(h:Q r ⟨lo,H⟩):Wq (Lite.gA P0 k (.ref a) ⟨lo,H⟩) Q X:=by
 unfold Lite.gA
 refine af (aq (af (yl e (af (bp e1 (af (bJ e2 (af (bp e3 ?_)))))))))
 exact h
theorem jK{Q:Unit->Sp}{k:Nat}{a:Nat}{D:Addr}{fs:List (Nat×V)}{r:V}(e:H[a]? =some (.inst D fs))(e1:P0.cD.contains (D,k)=true)(e2:acT fs.length 100=true)(h:Q () ⟨lo,H.set a (.inst D (e9 fs k r))⟩):Wq (Lite.sA P0 k (.ref a) r ⟨lo,H⟩) Q X:=by
 unfold Lite.sA
 refine af (aq (af (yl e (af (bp ?_ ?_)))))
 ·dsimp only;rw[e1];exact decide_eq_true (abR e2)
 ·exact h
theorem yo{Q:V×List V->Sp}{a:Nat}{D:Addr}{fs:List (Nat×V)}{nm:Str}{k:Nat}{f:Addr}(e:H[a]? =some (.inst D fs))(e1:fQ P0 nm=some k)(e2:(fs.lookup k).isNone=true)(e3:P0.e7.lookup (D,k)=some f)(h:Q (.ah f,[.ref a]) ⟨lo,H⟩):Wq (getM P0 (.ref a) nm ⟨lo,H⟩) Q X:=by
 show Wq ((Lite.obj a>>=lD P0 (.ref a) nm) ⟨lo,H⟩) Q X
 refine af (gx e ?_)
 refine af (bJ e1 (af (bp e2 (af (bJ e3 ?_)))))
 exact h
theorem gy{f:Addr}{args:List V}(e:P0.cls.lookup f=none)(h:Cq (C (.ah f) args H) (ot lo Q) X):Wq (aP P0 C true (.ah f) args ⟨lo,H⟩) Q X:=by
 show Wq (lF C true f args (P0.cls.lookup f) ⟨lo,H⟩) Q X
 rw[e]
 exact yn h
theorem yp{D:Addr}{init:Addr}{args:List V}(e:P0.cls.lookup D=some init)(h:Cq (C (.ah init) (V.ref H.length::args) (H++[.inst D []])) (yi lo H.length Q) X):Wq (aP P0 C true (.ah D) args ⟨lo,H⟩) Q X:=by
 show Wq (lF C true D args (P0.cls.lookup D) ⟨lo,H⟩) Q X
 rw[e]
 refine af (ou (af (af (yn (h.mono (λv H q=>?_) λ_ _ q=>q)))))
 obtain⟨rfl,q⟩:=q
 exact q
end
theorem ba{α:Type}{X:Xp}{lo:Lo}{H:Hp}{Q:α->Sp}{m:M α}{v:α}(e:m ⟨lo,H⟩=.ok v ⟨lo,H⟩)(q:Q v ⟨lo,H⟩):Wq (m ⟨lo,H⟩) Q X:=by rw[e];exact q
theorem ip{α:Type}{X:Xp}{r:R α}{Q:α->Sp}(h:∀ Q':α->Sp,(∀ a s,Q a s->Q' a s)->Wq r Q' X):Wq r Q X:=h Q λ_ _ h=>h
theorem fo{X:Xp}{C:Ct}{lo:Lo}{H:Hp}{Q:V->Sp}{f:Addr}{args:List (M V)}{vs:List V}(e:Lite.bD args ⟨lo,H⟩=.ok vs ⟨lo,H⟩)(ec:P0.cls.lookup f=none)(h:Cq (C (.ah f) vs H) (ot lo Q) X):Wq (Lite.ay P0 C (.ah f) args ⟨lo,H⟩) Q X:=aR (ba e (gy ec h))
abbrev Cl:=Nat×O
structure Holds(H:Hp)(c:List Cl):Prop where
 on:∀ x∈c,H[x.1]? =some x.2
 nd:(c.map (·.1)).Nodup
section
variable {H:Hp} {c c' E X F l1 l2:List Cl} {a:Nat} {o o':O}
theorem Holds.get(h:Holds H c)(m:(a,o)∈c):H[a]? =some o:=h.on _ m
theorem Holds.hd(h:Holds H ((a,o)::c)):H[a]? =some o:=h.on _ (.head _)
theorem Holds.lt(h:Holds H c){x:Cl}(m:x∈c):x.1<H.length:=(aan.mp (h.on x m)).1
theorem Holds.perm(h:Holds H c)(p:c.Perm c'):Holds H c':=⟨λx hx=>h.on x (p.mem_iff.mpr hx),(p.map _).nodup_iff.mp h.nd⟩
theorem Holds.sub(h:Holds H c)(s:c'.Sublist c):Holds H c':=⟨λx hx=>h.on x (s.subset hx),(s.map _).nodup h.nd⟩
theorem Holds.app(h:Holds H c)(G:Hp):Holds (H++G) c:=⟨λx hx=>by
 have:=h.on x hx
 rw[agD (aan.mp this).1];exact this,h.nd⟩
theorem Holds.new(h:Holds H c)(o:O):Holds (H++[o]) ((H.length,o)::c):=⟨λx hx=>by
 cases hx with
 |head=>simp
 |tail _ hx=>exact(h.app [o]).on x hx,by
 rw[aaH,aaI]
 refine⟨λm=>?_,h.nd⟩
 obtain⟨x,hx,e⟩:=aau.mp m
 have:=h.lt hx
 have e:x.1=H.length:=e
 lia⟩
theorem Holds.setAt(h:Holds H (l1++(a,o)::l2))(o':O):Holds (H.set a o') (l1++(a,o')::l2):=by
 have nd:=h.nd
 simp only[aaq,aaH]at nd
 have n1:=aaW.mp nd
 have n2:=aaI.mp n1.2.1
 have la:a<H.length:=h.lt (x:=(a,o)) (aac _ (.head _))
 refine⟨λx hx=>?_,by simp only[aaq,aaH];exact nd⟩
 rcases aav.mp hx with hx |hx
 ·have ne:a≠x.1:=λe=>n1.2.2 x.1 (abp hx) a (.head _) e.symm
  rw[adR ne];exact h.on x (aao _ hx)
 ·cases hx with
  |head=>simp[la]
  |tail _ hx=>
   have ne:a≠x.1:=λe=>n2.1 (aau.mpr ⟨x,hx,e.symm⟩)
   rw[adR ne];exact h.on x (aac _ (.tail _ hx))
theorem Holds.dt(h:Holds H ((a,o)::c))(o':O):Holds (H.set a o') ((a,o')::c):=h.setAt (l1:=[]) o'
theorem Holds.dZ{x:Cl}(h:Holds H (x::(a,o)::c))(o':O):Holds (H.set a o') (x::(a,o')::c):=h.setAt (l1:=[x]) o'
theorem Holds.jL{x y:Cl}(h:Holds H (x::y::(a,o)::c))(o':O):Holds (H.set a o') (x::y::(a,o')::c):=h.setAt (l1:=[x,y]) o'
theorem Holds.N9{x y z:Cl}(h:Holds H (x::y::z::(a,o)::c))(o':O):Holds (H.set a o') (x::y::z::(a,o')::c):=h.setAt (l1:=[x,y,z]) o'
theorem Holds.front(h:Holds H (E++(X++F))):Holds H (X++(E++F)):=h.perm (by
 rw[<-aaf,<-aaf]
 exact adJ.append_right F)
theorem Holds.bg{x:Cl}(h:Holds H (x::c)):Holds H c:=h.sub (acq _ _)
theorem Holds.mid{x:Cl}(h:Holds H (x::(l1++l2))):Holds H (l1++x::l2):=h.perm acy.symm
end
/-! the disk -/
structure Dk where
 dk:Nat
 mC:Nat
 mD:Nat
 iq:Nat
 B:Int
 S:Int
 w:Int
 f:Int
 la:Option Int
 lf:Option Int
 dead:Bool
 ke:List (Int×V)
 le:List (Int×V)
 un:List (Nat×Int×By)
noncomputable def oV (o:Option Int):V:=match o with
 |some i=>.int i
 |none=>.none
def oz(s:Dk):List (Nat×V):=[(7,.int s.B),(12,.int s.S),(61,.ref s.mC),(62,.ref s.mD),(63,.ref s.iq),(2,.int s.w),(64,.int s.f),(65,oV s.la),(66,oV s.lf),(67,.bool s.dead)]
def gT(s:Dk):O:=.inst 533 (oz s)
noncomputable def cS (t:Nat×Int×By):Cl:=(t.1,.tuple [.int t.2.1,.bytes t.2.2])
def av(s:Dk):List Cl:=(s.dk,gT s)::(s.mC,.dict s.ke)::(s.mD,.dict s.le)::(s.iq,.list (s.un.map λt=>V.ref t.1))::s.un.map cS
theorem Oa:([7,12,61,62,63,2,64,65,66,67].all λk=>P0.cD.contains (533,k))=true:=by kernel_rfl
theorem Ob:([8,14,12,43,44,45,46,2].all λk=>P0.cD.contains (435,k))=true:=by kernel_rfl
theorem Oc:([24,36,37,38].all λk=>P0.cD.contains (316,k))=true:=by kernel_rfl
theorem Od:([10,11,12,13,14,16,18,19,20,21].all λk=>P0.cD.contains (218,k))=true:=by kernel_rfl
section
variable {X:Xp} {lo:Lo} {H:Hp} {C:Ct}
def oA(es:List (M Bool))(Q:Bool->Sp)(X:Xp):Bool->Sp
 |true,s=>Q true s
 |false,s=>Wq (allM .Or es s) Q X
def yq(es:List (M Bool))(Q:Bool->Sp)(X:Xp):Bool->Sp
 |true,s=>Wq (allM .And es s) Q X
 |false,s=>Q false s
theorem dD{Q:Bool->Sp}{e:M Bool}{es:List (M Bool)}(h:Wq (e ⟨lo,H⟩) (oA es Q X) X):Wq (allM .Or (e::es) ⟨lo,H⟩) Q X:=by
 refine af (h.mono (λt s q=>?_) λ_ _ q=>q)
 cases t<;>exact q
theorem mE{Q:Bool->Sp}{e:M Bool}{es:List (M Bool)}(h:Wq (e ⟨lo,H⟩) (yq es Q X) X):Wq (allM .And (e::es) ⟨lo,H⟩) Q X:=by
 refine af (h.mono (λt s q=>?_) λ_ _ q=>q)
 cases t<;>exact q
theorem yr{Q:Bool->Sp}{b:Bool}(q:Q b ⟨lo,H⟩):Wq (Lite.gh (.bool b) ⟨lo,H⟩) Q X:=q
theorem du{Q:Bool->Sp}{b:Bool}(q:Q b ⟨lo,H⟩):Wq (Lite.truth (.bool b) ⟨lo,H⟩) Q X:=q
section
variable {Q:Bool->Sp} {a b:Int} {r:Bool}
theorem jM(e:decide (a<=b)=r)(q:Q r ⟨lo,H⟩):Wq (cF .LtE (.int a) (.int b) ⟨lo,H⟩) Q X:=by subst e;exact q
theorem fp(e:decide (a<b)=r)(q:Q r ⟨lo,H⟩):Wq (cF .Lt (.int a) (.int b) ⟨lo,H⟩) Q X:=by subst e;exact q
theorem iZ(e:decide (a>b)=r)(q:Q r ⟨lo,H⟩):Wq (cF .Gt (.int a) (.int b) ⟨lo,H⟩) Q X:=by subst e;exact q
theorem oB(e:decide (a ≥ b)=r)(q:Q r ⟨lo,H⟩):Wq (cF .GtE (.int a) (.int b) ⟨lo,H⟩) Q X:=by subst e;exact q
theorem gB(e:decide (a=b)=r)(q:Q r ⟨lo,H⟩):Wq (cF .Eq (.int a) (.int b) ⟨lo,H⟩) Q X:=by
 have:(a==b)=r:=by rw[<-e];rfl
 show Q (a==b) ⟨lo,H⟩
 rw[this];exact q
theorem yt(e:decide (a=b)= !r)(q:Q r ⟨lo,H⟩):Wq (cF .NotEq (.int a) (.int b) ⟨lo,H⟩) Q X:=by
 have:(a==b)= !r:=by rw[<-e];rfl
 show Q (!(a==b)) ⟨lo,H⟩
 rw[this,Bool.not_not];exact q
end
theorem aw{Q:V->Sp}{i k a:Nat}{D:Addr}{fs:List (Nat×V)}{r:V}(e0:lo[i]? =some (some (.ref a)))(e:H[a]? =some (.inst D fs))(e1:P0.cD.contains (D,k)=true)(e2:fs.lookup k=some r)(e3:kh r=true)(h:Q r ⟨lo,H⟩):
  Wq ((Lite.ae i>>=Lite.gA P0 k) ⟨lo,H⟩) Q X:=af<|aj e0<|gS e e1 e2 e3 h
theorem yu{Q:V->Sp}{x:Int}(q:Q (.bool true) ⟨lo,H⟩):Wq (aP P0 C true (.bi "isinstance") [.int x,.ty "int"] ⟨lo,H⟩) Q X:=by
 have e:aP P0 C true (.bi "isinstance") [.int x,.ty "int"] ⟨lo,H⟩=.ok (.bool true) ⟨lo,H⟩:=by kernel_rfl
 rw[e];exact q
theorem yv{Q:V->Sp}{b:By}(q:Q (.bytes b) ⟨lo,H⟩):Wq (aP P0 C true (.ty "bytes") [.bytes b] ⟨lo,H⟩) Q X:=by
 have e:aP P0 C true (.ty "bytes") [.bytes b] ⟨lo,H⟩=.ok (.bytes b) ⟨lo,H⟩:=by kernel_rfl
 rw[e];exact q
theorem r4{Q:V->Sp}{k:Int}(h:0<=k∧k<=lim)(q:Q (.bytes (aaT k.toNat 0)) ⟨lo,H⟩):Wq (aP P0 C true (.ty "bytes") [.int k] ⟨lo,H⟩) Q X:=by
 have e:aP P0 C true (.ty "bytes") [.int k] ⟨lo,H⟩=(Lite.guard (decide (0<=k)&&decide (k<=lim))>>=λ_=>aak (V.bytes (aaT k.toNat 0))) ⟨lo,H⟩:=by kernel_rfl
 rw[e];exact af<|bp (by simp[h]) q
theorem r7{Q:V->Sp}{b:By}(h:b.length<=lim)(q:Q (.int b.length) ⟨lo,H⟩):Wq (aP P0 C true (.bi "len") [.bytes b] ⟨lo,H⟩) Q X:=by
 have e2:aP P0 C true (.bi "len") [.bytes b] ⟨lo,H⟩=(Lite.guard (decide (b.length<=lim))>>=λ_=>aak (V.int b.length)) ⟨lo,H⟩:=by kernel_rfl
 rw[e2]
 exact af<|bp (decide_eq_true h) q
theorem fK{Q:V->Sp}{a:Nat}{xs:List V}(e:H[a]? =some (.list xs))(h:xs.length<=lim)(q:Q (.int xs.length) ⟨lo,H⟩):Wq (aP P0 C true (.bi "len") [.ref a] ⟨lo,H⟩) Q X:=by
 have e2:aP P0 C true (.bi "len") [.ref a] ⟨lo,H⟩=(Lite.obj a>>=lE) ⟨lo,H⟩:=by kernel_rfl
 rw[e2]
 refine af<|gx e ?_
 exact af<|bp (decide_eq_true h) q
end
theorem bA{k:Nat}(h:k∈[7,12,61,62,63,2,64,65,66,67]):P0.cD.contains (533,k)=true:=aaV.mp Oa k h
theorem bU{k:Nat}(h:k∈[8,14,12,43,44,45,46,2]):P0.cD.contains (435,k)=true:=aaV.mp Ob k h
theorem dh{k:Nat}(h:k∈[24,36,37,38]):P0.cD.contains (316,k)=true:=aaV.mp Oc k h
theorem aS{k:Nat}(h:k∈[10,11,12,13,14,16,18,19,20,21]):P0.cD.contains (218,k)=true:=aaV.mp Od k h
section
variable {s:Dk} {F:List Cl} {H:Hp} {n:Nat}
theorem bq(h:Holds H (av s++F)):H[s.dk]? =some (gT s):=h.on _ (.head _)
theorem r8(h:Holds H (av s++F))(hd:s.dead=false){Q:Qh}{X:Xp}(q:Q .none H):Cq (Rn 1 n (.ah 460) [.ref s.dk] H) Q X:=by
 rw[LX]
 refine Cq.fin<|ag<|cR<|af<|aw rfl (bq h) (bA (by decide)) rfl rfl<|du ?_
 rw[hd]
 exact q
theorem yw(h:Holds H (av s++F)){x:Int}(h1:0<=x)(h2:x<s.B){Q:Qh}{X:Xp}(q:Q .none H):Cq (Rn 1 n (.ah 467) [.ref s.dk,.int x] H) Q X:=by
 rw[L1]
 refine Cq.fin<|ag<|cR<|dD<|af<|af<|aR<|ba rfl ?_
 refine yu<|du<|aq ?_
 refine dD<|af<|af<|aq<|mB<|aj rfl<|jM (decide_eq_true h1) ?_
 refine bu<|aw rfl (bq h) (bA (by decide)) rfl rfl<|fp (decide_eq_true h2) ?_
 exact q
end
structure bL(D:Addr)(nm:Str)(k:Nat)(f:Addr):Prop where
 s:fQ P0 nm=some k
 m:P0.e7.lookup (D,k)=some f
theorem yx:bL 218 "is_own" 23 138:=⟨by kernel_rfl,by kernel_rfl⟩
theorem r9:bL 218 "write_head" 35 194:=⟨by kernel_rfl,by kernel_rfl⟩
theorem yy:bL 218 "install" 34 201:=⟨by kernel_rfl,by kernel_rfl⟩
theorem Oe:bL 218 "pending" 33 208:=⟨by kernel_rfl,by kernel_rfl⟩
theorem Of:bL 218 "recover" 76 215:=⟨by kernel_rfl,by kernel_rfl⟩
theorem Og:bL 316 "is_free" 53 243:=⟨by kernel_rfl,by kernel_rfl⟩
theorem yz:bL 316 "octets" 57 250:=⟨by kernel_rfl,by kernel_rfl⟩
theorem yA:bL 316 "fill" 59 278:=⟨by kernel_rfl,by kernel_rfl⟩
theorem Oh:bL 435 "need_block" 50 341:=⟨by kernel_rfl,by kernel_rfl⟩
theorem oE:bL 435 "need_held" 26 348:=⟨by kernel_rfl,by kernel_rfl⟩
theorem sa:bL 435 "get" 48 355:=⟨by kernel_rfl,by kernel_rfl⟩
theorem Oi:bL 435 "make_room" 51 362:=⟨by kernel_rfl,by kernel_rfl⟩
theorem sb:bL 435 "release" 58 369:=⟨by kernel_rfl,by kernel_rfl⟩
theorem Oj:bL 435 "write" 56 390:=⟨by kernel_rfl,by kernel_rfl⟩
theorem mF:bL 435 "flush" 30 397:=⟨by kernel_rfl,by kernel_rfl⟩
theorem oF:bL 435 "peek" 31 404:=⟨by kernel_rfl,by kernel_rfl⟩
theorem mG:bL 435 "poke" 29 411:=⟨by kernel_rfl,by kernel_rfl⟩
theorem se:bL 533 "need_power" 68 460:=⟨by kernel_rfl,by kernel_rfl⟩
theorem yB:bL 533 "need_block" 50 467:=⟨by kernel_rfl,by kernel_rfl⟩
theorem sf:bL 533 "read" 52 474:=⟨by kernel_rfl,by kernel_rfl⟩
theorem yC:bL 533 "write" 56 481:=⟨by kernel_rfl,by kernel_rfl⟩
theorem yD:bL 533 "fail" 69 488:=⟨by kernel_rfl,by kernel_rfl⟩
theorem yE:bL 533 "flush" 30 495:=⟨by kernel_rfl,by kernel_rfl⟩
theorem Ol:bL 533 "stop_at_flush" 75 509:=⟨by kernel_rfl,by kernel_rfl⟩
theorem Om:bL 533 "after" 77 516:=⟨by kernel_rfl,by kernel_rfl⟩
abbrev yF(C:Ct)(f:Addr)(a:Nat)(Q:V->Sp)(X:Xp):List V->Sp:=λas s=>Cq (C (.ah f) (.ref a::as) s.H) (ot s.lo Q) X
abbrev mH(a:Nat)(o:O)(P:Sp):V->Sp:=λov s=>aO (ov=.ref a) (s.H[a]? =some o) (P s)
abbrev yG(args:List (M V))(Q:List V->Sp)(X:Xp):Sp:=λs=>Wq (Lite.bD args s) Q X
abbrev Oo(a:Nat)(es:List (Int×V))(Q:V->Sp):List V->Sp:=λas s=>s.H[a]? =some (.dict es)∧((∃ k,as=[.int k]∧Q ((dW es k).getD .none) s)∨bT λk d=>as=[.int k,d]∧Q ((dW es k).getD d) s)
abbrev addQ(a:Nat)(ys:List V)(Q:V->Sp):V->Sp:=λx s=>aO (s.H[a]? =some (.list ys)) (ys.length<lim) (Q .none {s with H:=s.H.set a (.list (ys++[x]))})
abbrev sg{α:Type}(v:M α)(Q:α->Sp)(X:Xp):Sp:=λs=>Wq (v s) Q X
section
variable {X:Xp} {lo:Lo} {H:Hp} {C:Ct}
theorem aW{Q:V->Sp}{a:Nat}{D:Addr}{fs:List (Nat×V)}{nm:Str}{k:Nat}{f:Addr}{o:M V}{args:List (M V)}(i:bL D nm k f)(ec:P0.cls.lookup f=none)(e2:(fs.lookup k).isNone=true)
  (h:Wq (o ⟨lo,H⟩) (mH a (.inst D fs) (yG args (yF C f a Q X) X)) X):Wq (Lite.aH P0 C o nm args ⟨lo,H⟩) Q X:=by
 refine kN (h.mono (λov s q=>?_) λ_ _ q=>q)
 obtain⟨rfl,e,q⟩:=q
 exact yo e i.s e2 i.m (q.mono (λas s'' q=>gy ec q) λ_ _ q=>q)
theorem Oq{Q:V×List V->Sp}{a:Nat}{o:O}{nm:Str}(e:H[a]? =some o)(h:Wq (lD P0 (.ref a) nm o ⟨lo,H⟩) Q X):Wq (getM P0 (.ref a) nm ⟨lo,H⟩) Q X:=af<|bJ rfl<|af<|gx e h
theorem oG{Q:V×List V->Sp}{a:Nat}{o:O}{nm:Str}{f:V}(e:H[a]? =some o)(e0:lD P0 (.ref a) nm o ⟨lo,H⟩=.ok (f,[.ref a]) ⟨lo,H⟩)(h:Q (f,[.ref a]) ⟨lo,H⟩):Wq (getM P0 (.ref a) nm ⟨lo,H⟩) Q X:=Oq e (by rw[e0];exact h)
theorem oH{Q:V->Sp}{a:Nat}{es:List (Int×V)}{o:M V}{args:List (M V)}
  (h:Wq (o ⟨lo,H⟩) (mH a (.dict es) (yG args (Oo a es Q) X)) X):Wq (Lite.aH P0 C o "get" args ⟨lo,H⟩) Q X:=by
 refine kN (h.mono (λov s q=>?_) λ_ _ q=>q)
 obtain⟨rfl,e,q⟩:=q
 refine oG (f:=.bi "dict.get") e (by kernel_rfl) (q.mono (λas s'' q=>?_) λ_ _ q=>q)
 obtain⟨e',q⟩:=q
 rcases q with ⟨k,rfl,q⟩ | ⟨k,d,rfl,q⟩
 ·have e2:aP P0 C true (.bi "dict.get") [.ref a,.int k] s''=(Lite.dictAt a>>=λes=>aak ((dW es k).getD .none)) s'':=by kernel_rfl
  show Wq (aP P0 C true (.bi "dict.get") [.ref a,.int k] s'') Q X
  rw[e2]
  exact af<|rY e' q
 ·have e2:aP P0 C true (.bi "dict.get") [.ref a,.int k,d] s''=(Lite.dictAt a>>=λes=>aak ((dW es k).getD d)) s'':=by kernel_rfl
  show Wq (aP P0 C true (.bi "dict.get") [.ref a,.int k,d] s'') Q X
  rw[e2]
  exact af<|rY e' q
theorem i0{Q:V->Sp}{a:Nat}{xs ys:List V}{o v:M V}
  (h:Wq (o ⟨lo,H⟩) (mH a (.list xs) (sg v (addQ a ys Q) X)) X):Wq (Lite.aH P0 C o "append" [v] ⟨lo,H⟩) Q X:=by
 refine kN (h.mono (λov s q=>?_) λ_ _ q=>q)
 obtain⟨rfl,e,q⟩:=q
 refine oG (f:=.bi "list.append") e (by kernel_rfl)<|au (q.mono (λx s'' q=>ar ?_) λ_ _ q=>q)
 obtain⟨e',hl,q⟩:=q
 have e2:aP P0 C true (.bi "list.append") [.ref a,x] s''=(Lite.bV a>>=λxs=>Lite.guard (decide (xs.length<lim))>>=λ_=>Lite.put a (.list (xs++[x]))>>=λ_=>aak V.none) s'':=by kernel_rfl
 show Wq (aP P0 C true (.bi "list.append") [.ref a,x] s'') Q X
 rw[e2]
 exact af<|il e'<|af<|bp (decide_eq_true hl)<|af<|mA q
theorem Ot{Q:Unit->Sp}{a:Nat}{es:List (Int×V)}{k:Int}{v:V}(e:H[a]? =some (.dict es))(hl:es.length<=lim)(q:Q () ⟨lo,H.set a (.dict (dput es k v))⟩):Wq (dN (.ref a) (.int k) v ⟨lo,H⟩) Q X:=by
 exact af<|bJ rfl<|af<|gx e<|af<|bp (decide_eq_true hl)<|af<|bJ rfl q
end
noncomputable def zeros (k:Int):By:=aaT k.toNat 0
def sh(s:Dk)(x:Int):V:=(dW s.le x).getD (.bytes (zeros s.S))
section
variable {s:Dk} {F:List Cl} {H:Hp} {n:Nat} {Q:Qh} {X:Xp}
theorem si(h:Holds H (av s++F)):H[s.mD]? =some (.dict s.le):=h.on _ (.tail _ (.tail _ (.head _)))
theorem jN(h:Holds H (av s++F)):H[s.iq]? =some (.list (s.un.map λt=>V.ref t.1)):=h.on _ (.tail _ (.tail _ (.tail _ (.head _))))
theorem sj(h:Holds H (av s++F))(hd:s.dead=false){x:Int}(h1:0<=x)(h2:x<s.B)(hS:0<=s.S∧s.S<=lim)(q:Q (sh s x) H):Cq (Rn 2 n (.ah 474) [.ref s.dk,.int x] H) Q X:=by
 simp only[L7]
 refine Cq.fin<|ag<|bh<|aW se rfl (fs:=_) rfl<|aj rfl ⟨rfl,bq h,ar (r8 h hd ?_)⟩
 refine ag<|bh<|aW yB rfl rfl<|aj rfl ⟨rfl,bq h,au<|aj rfl<|ar (yw h h1 h2 ?_)⟩
 refine ag<|cQ<|oH<|aw rfl (bq h) (bA (by decide)) rfl rfl ⟨rfl,si h,au<|aj rfl<|au<|aR<|au<|aw rfl (bq h) (bA (by decide)) rfl rfl<|ar<|r4 hS<|ar ⟨si h,.inr ⟨x,_,rfl,?_⟩⟩⟩
 exact q
end
abbrev yH(mk:List V->O)(Q:V->Sp):List V->Sp:=λvs s=>acT vs.length 1000=true∧Q (.ref s.H.length) ⟨s.lo,s.H++[mk vs]⟩
abbrev yI(mk:List V->O)(c:List Cl)(Q:V->Sp):List V->Sp:=λvs s=>aO (acT vs.length 1000=true) (Holds s.H c) (∀ H' t,Holds H' ((t,mk vs)::c)->Q (.ref t) ⟨s.lo,H'⟩)
section
variable {X:Xp} {lo:Lo} {H:Hp} {C:Ct}
theorem Ou{Q:Fl->Sp}{i k a:Nat}{D:Addr}{fs:List (Nat×V)}{x y:Int}(e0:lo[i]? =some (some (.ref a)))(e:H[a]? =some (.inst D fs))(e1:P0.cD.contains (D,k)=true)(e2:fs.lookup k=some (.int x))(e3:acT fs.length 100=true)
  (h:Q .next ⟨lo,H.set a (.inst D (e9 fs k (.int (x+y))))⟩):
  Wq (((Lite.ae i)>>=λo=>Lite.gA P0 k o>>=λa=>(aak (V.int y))>>=λb=>cE .Add a b>>=λr=>Lite.sA P0 k o r>>=λ_=>aak .next:M Fl) ⟨lo,H⟩) Q X:=
 af<|aj e0<|af<|gS e e1 e2 rfl<|af<|aq<|af<|aq<|af<|jK e e1 e3 h
theorem Ov{Q:Fl->Sp}{i k a:Nat}{D:Addr}{fs:List (Nat×V)}{x y:Int}(e0:lo[i]? =some (some (.ref a)))(e:H[a]? =some (.inst D fs))(e1:P0.cD.contains (D,k)=true)(e2:fs.lookup k=some (.int x))(e3:acT fs.length 100=true)
  (h:Q .next ⟨lo,H.set a (.inst D (e9 fs k (.int (x-y))))⟩):
  Wq (((Lite.ae i)>>=λo=>Lite.gA P0 k o>>=λa=>(aak (V.int y))>>=λb=>cE .Sub a b>>=λr=>Lite.sA P0 k o r>>=λ_=>aak .next:M Fl) ⟨lo,H⟩) Q X:=
 af<|aj e0<|af<|gS e e1 e2 rfl<|af<|aq<|af<|aq<|af<|jK e e1 e3 h
theorem Ow{Q:Bool->Sp}(q:Q false ⟨lo,H⟩):Wq (cF .IsNot .none .none ⟨lo,H⟩) Q X:=q
theorem b6{n:Nat}(h:acT n 1000=true):n<=lim:=aah (abR h) (by delta lim;decide)
theorem jO{Q:V->Sp}{es:List (M V)}(h:Wq (Lite.bD es ⟨lo,H⟩) (yH .tuple Q) X):Wq (tupS es ⟨lo,H⟩) Q X:=
 af (h.mono (λ_ _ q=>af<|bp (decide_eq_true (b6 q.1))<|ou q.2) λ_ _ q=>q)
theorem oI{Q:V->Sp}{es:List (M V)}(h:Wq (Lite.bD es ⟨lo,H⟩) (yH .list Q) X):Wq (listS es ⟨lo,H⟩) Q X:=
 af (h.mono (λ_ _ q=>af<|bp (decide_eq_true (b6 q.1))<|ou q.2) λ_ _ q=>q)
/-! stores,the heap behind them no more than what it holds -/
theorem ir{Q:Fl->Sp}{i k a:Nat}{D:Addr}{fs:List (Nat×V)}{x y:Int}{c':List Cl}(e0:lo[i]? =some (some (.ref a)))(e:H[a]? =some (.inst D fs))(e1:P0.cD.contains (D,k)=true)(e2:fs.lookup k=some (.int x))(e3:acT fs.length 100=true)
  (hc:Holds (H.set a (.inst D (e9 fs k (.int (x+y))))) c') (h:∀ H',Holds H' c'->Q .next ⟨lo,H'⟩):
  Wq (((Lite.ae i)>>=λo=>Lite.gA P0 k o>>=λa=>(aak (V.int y))>>=λb=>cE .Add a b>>=λr=>Lite.sA P0 k o r>>=λ_=>aak .next:M Fl) ⟨lo,H⟩) Q X:=Ou e0 e e1 e2 e3 (h _ hc)
theorem sm{Q:Fl->Sp}{i k a:Nat}{D:Addr}{fs:List (Nat×V)}{x y:Int}{c':List Cl}(e0:lo[i]? =some (some (.ref a)))(e:H[a]? =some (.inst D fs))(e1:P0.cD.contains (D,k)=true)(e2:fs.lookup k=some (.int x))(e3:acT fs.length 100=true)
  (hc:Holds (H.set a (.inst D (e9 fs k (.int (x-y))))) c') (h:∀ H',Holds H' c'->Q .next ⟨lo,H'⟩):
  Wq (((Lite.ae i)>>=λo=>Lite.gA P0 k o>>=λa=>(aak (V.int y))>>=λb=>cE .Sub a b>>=λr=>Lite.sA P0 k o r>>=λ_=>aak .next:M Fl) ⟨lo,H⟩) Q X:=Ov e0 e e1 e2 e3 (h _ hc)
theorem iu{Q:Unit->Sp}{k a:Nat}{D:Addr}{fs:List (Nat×V)}{r:V}{c':List Cl}(e:H[a]? =some (.inst D fs))(e1:P0.cD.contains (D,k)=true)(e3:acT fs.length 100=true)(hc:Holds (H.set a (.inst D (e9 fs k r))) c')(h:∀ H',Holds H' c'->Q () ⟨lo,H'⟩):
  Wq (Lite.sA P0 k (.ref a) r ⟨lo,H⟩) Q X:=jK e e1 e3 (h _ hc)
theorem mI{Q:Unit->Sp}{a:Nat}{es:List (Int×V)}{k:Int}{v:V}{c':List Cl}(e:H[a]? =some (.dict es))(hl:es.length<=lim)(hc:Holds (H.set a (.dict (dput es k v))) c')(h:∀ H',Holds H' c'->Q () ⟨lo,H'⟩):Wq (dN (.ref a) (.int k) v ⟨lo,H⟩) Q X:=Ot e hl (h _ hc)
theorem sq{Q:V->Sp}{es:List (M V)}{c:List Cl}(h:Wq (Lite.bD es ⟨lo,H⟩) (yI .tuple c Q) X):Wq (tupS es ⟨lo,H⟩) Q X:=
 jO (h.mono (λvs s q=>⟨q.1,q.3 _ _ (q.2.new _)⟩) λ_ _ q=>q)
theorem eU{Q:V->Sp}{es:List (M V)}{c:List Cl}(h:Wq (Lite.bD es ⟨lo,H⟩) (yI .list c Q) X):Wq (listS es ⟨lo,H⟩) Q X:=
 oI (h.mono (λvs s q=>⟨q.1,q.3 _ _ (q.2.new _)⟩) λ_ _ q=>q)
theorem d5{Q:V->Sp}{o:O}{c:List Cl}(hc:Holds H c)(h:∀ H' t,Holds H' ((t,o)::c)->Q (.ref t) ⟨lo,H'⟩):Wq (Lite.alloc o ⟨lo,H⟩) Q X:=ou (h _ _ (hc.new o))
theorem Ox{Q:Fl->Sp}{i:Int}(h:gn i=true)(x:X 95 H):Wq (b8 P0 true 95 [.int i] ⟨lo,H⟩) Q X:=by
 have e:b8 P0 true 95 [.int i] ⟨lo,H⟩=(Lite.guard (gn i)>>=λ_=>Lite.raise 95) ⟨lo,H⟩:=by kernel_rfl
 rw[e]
 exact af<|bp h x
end
section
variable {s:Dk} {F:List Cl} {H:Hp} {n:Nat} {Q:Qh} {X:Xp}
noncomputable def Dk.w1 (s:Dk):Dk:={s with w:=s.w+1}
def Dk.put(s:Dk)(x:Int)(b:By):Dk:={s with le:=dput s.le x (.bytes b)}
noncomputable def Dk.app (s:Dk) (t:Nat) (x:Int) (b:By):Dk:={s with un:=s.un++[(t,x,b)]}
abbrev Dk.wrote(s:Dk)(t:Nat)(x:Int)(b:By):Dk:=(s.w1.put x b).app t x b
theorem Oy{s:Dk}{t:Nat}{x:Int}{b:By}(h:Holds H ((t,.tuple [.int x,.bytes b])::(av s++F))):Holds (H.set s.iq (.list ((s.un.map λt=>V.ref t.1)++[.ref t]))) (av (s.app t x b)++F):=by
 have h1:=Holds.setAt (l1:=[_,_,_,_]) h (.list ((s.un.map λt=>V.ref t.1)++[.ref t]))
 refine h1.perm ?_
 have e:av (s.app t x b)++F=(s.dk,gT s)::(s.mC,.dict s.ke)::(s.mD,.dict s.le)::(s.iq,.list ((s.un.map λt=>V.ref t.1)++[.ref t]))::(s.un.map cS++(t,.tuple [.int x,.bytes b])::F):=by
  delta av Dk.app
  simp[gT,oz,cS]
 simp only[e]
 refine(aaS _ _ _).trans (aaU _ ?_)
 refine(aaS _ _ _).trans (aaU _ ?_)
 refine(aaS _ _ _).trans (aaU _ ?_)
 refine(aaS _ _ _).trans (aaU _ ?_)
 exact acy.symm
noncomputable def Dk.eJ (s:Dk):Dk:={s with dead:=true}
def Dk.fq(s:Dk):Prop:=∃ k,s.la=some k∧k<=s.w
def Dk.cy(s:Dk):Prop:=∃ k,s.lf=some k∧k<=s.f
theorem yJ(h:Holds H (av s++F))(hw:gn s.w=true)(x:∀ H',Holds H' (av s.eJ++F)->X 95 H'):Cq (Rn 1 n (.ah 488) [.ref s.dk] H) Q X:=by
 rw[Mj]
 refine Cq.fin<|ag<|aY<|aq<|af<|aj rfl<|iu (c':=av s.eJ++F) (bq h) (bA (by decide)) rfl (h.dt _) λH h=>?_
 exact ag<|af<|au<|aw rfl (bq (s:=s.eJ) h) (bA (by decide)) rfl rfl<|ar<|Ox hw (x H h)
theorem yK{Q:Fl->Sp}{lo:Lo}{k j:Nat}{o:Option Int}{w:Int}{ss:Lm}(e0:lo[0]? =some (some (.ref s.dk)))(h:Holds H (av s++F))(hk:k∈[7,12,61,62,63,2,64,65,66,67])(hj:j∈[7,12,61,62,63,2,64,65,66,67])(e1:(oz s).lookup k=some (oV o))(e2:(oz s).lookup j=some (.int w))
  (q1:(∀ i,o=some i->w<i)->Q .next ⟨lo,H⟩) (q2:∀ i,o=some i->i<=w->Wq (ax ss ⟨lo,H⟩) Q X):
  Wq (Lite.bz (allM .And [((Lite.ae 0)>>=Lite.gA P0 k)>>=λa=>aV a [.IsNot] [aak V.none],((Lite.ae 0)>>=Lite.gA P0 j)>>=λa=>aV a [.GtE] [(Lite.ae 0)>>=Lite.gA P0 k]]) ss [] ⟨lo,H⟩) Q X:=by
 have pl:kh (oV o)=true:=by cases o<;>rfl
 cases o with
 |none=>exact dC<|mE<|af<|aw e0 (bq h) (bA hk) e1 pl<|bu<|aq<|Ow ⟨rfl,q1 λi z=>nomatch z⟩
 |some i=>
  refine cR<|mE<|af<|aw e0 (bq h) (bA hk) e1 pl<|bu<|aq ?_
  refine mE<|af<|aw e0 (bq h) (bA hj) e2 rfl<|bu<|aw e0 (bq h) (bA hk) e1 pl<|oB (r:=decide (w ≥ i)) rfl ?_
  by_cases hc:i<=w
  ·rw[show decide (w ≥ i)=true from decide_eq_true hc];exact q2 i rfl hc
  ·rw[show decide (w ≥ i)=false from decide_eq_false hc];exact q1 λj z=>by cases z;exact adf.mp hc
theorem yL(h:Holds H (av s++F)){y:Int}{b:By}(h1:0<=y)(h2:y<s.B)(hb:(b.length:Int)=s.S)(hS:s.S<=lim)(hl:s.le.length<=lim)(hu:s.un.length<lim)(hd:s.dead=false)(hw:s.fq->gn s.w=true)(x:s.fq->∀ H',Holds H' (av s.eJ++F)->X 95 H')(q:¬ s.fq->∀ H' t,Holds H' (av (s.wrote t y b)++F)->Q .none H'):
  Cq (Rn 2 n (.ah 481) [.ref s.dk,.int y,.bytes b] H) Q X:=by
 have hbl:b.length<=lim:=by
  have:(b.length:Int)<=lim:=by simp only[hb];exact hS
  exact abg.mp this
 simp only[Mf]
 refine Cq.fin<|ag<|bh<|aW se rfl rfl<|aj rfl ⟨rfl,bq h,ar (r8 h hd ?_)⟩
 refine ag<|bh<|aW yB rfl rfl<|aj rfl ⟨rfl,bq h,au<|aj rfl<|ar (yw h h1 h2 ?_)⟩
 refine ag<|dC<|af<|aR<|ba rfl<|r7 hbl<|bu<|aw rfl (bq h) (bA (by decide)) rfl rfl<|yt (r:=false) (decide_eq_true hb) ⟨rfl,?_⟩
 refine ag<|yK (k:=65) (j:=2) (o:=s.la) (w:=s.w) rfl h (by decide) (by decide) rfl rfl ?_ λi hi hi2=>?_
 case refine_2=>exact ag<|bh<|aW yD rfl rfl<|aj rfl ⟨rfl,bq h,ar (yJ h (hw ⟨i,hi,hi2⟩) (x ⟨i,hi,hi2⟩))⟩
 intro hns
 refine ag<|ir (c':=av s.w1++F) rfl (bq h) (bA (by decide)) rfl rfl (h.dt _) λH h=>?_
 refine ag<|aY<|aR<|ba rfl<|yv<|af<|aw rfl (bq (s:=s.w1) h) (bA (by decide)) rfl rfl<|af<|aj rfl<|mI (c':=av (s.w1.put y b)++F) (si (s:=s.w1) h) hl (h.jL _) λH h=>?_
 refine ag<|bh<|i0 (ys:=s.un.map λt=>V.ref t.1)<|aw rfl (bq (s:=s.w1.put y b) h) (bA (by decide)) rfl rfl ⟨rfl,jN (s:=s.w1.put y b) h,sq (c:=av (s.w1.put y b)++F)<|au<|aj rfl<|au<|aR<|ba rfl<|yv<|ar ⟨rfl,h,λH t h=>?_⟩⟩
 exact⟨h.on _ (.tail _ (.tail _ (.tail _ (.tail _ (.head _))))),by simpa using hu,q (λ⟨k,e,hk⟩=>absurd (hns k e) (abI.mpr hk)) _ _ (Oy h)⟩
end
section
variable {κ:Type} [DecidableEq κ]
theorem Oz{es:List (κ×V)}{k:κ}{v:V}(j:κ):(es.map λp=>if p.1=k then (p.1,v)else p).lookup j=if j=k then (es.lookup k).map (λ_=>v)else es.lookup j:=by
 induction es with
 |nil=>by_cases h:j=k<;>simp[h]
 |cons p r ih=>
  obtain⟨a,b⟩:=p
  rw[aaH]
  by_cases ha:a=k
  ·rw[if_pos ha,aay,aay,aay]
   by_cases hj:j=k
   ·have e1:(j==a)=true:=by simp[hj,ha]
    have e2:(k==a)=true:=by simp[ha]
    rw[e1,e2,if_pos hj];rfl
   ·have e1:(j==a)=false:=by simp[ha,hj]
    rw[e1,ih,if_neg hj,if_neg hj]
  ·rw[if_neg ha,aay,aay,aay]
   by_cases hj:j=k
   ·have e1:(j==a)=false:=by subst hj;simpa using acm ha
    have e2:(k==a)=false:=by simpa using acm ha
    rw[e1,e2,ih,if_pos hj]
   ·rw[ih,if_neg hj,if_neg hj]
theorem OA{es:List (κ×V)}{k j:κ}{v:V}(h:es.lookup k=none):(es++[(k,v)]).lookup j=if j=k then some v else es.lookup j:=by
 rw[List.lookup_append]
 by_cases hj:j=k
 ·subst hj;rw[h];simp
 ·rw[if_neg hj]
  have:(j==k)=false:=by simpa using hj
  cases es.lookup j<;>simp[aay,this]
theorem kO(es:List (κ×V))(k:κ)(v:V)(j:κ):(dput es k v).lookup j=if j=k then some v else es.lookup j:=by
 delta dput
 cases h:es.lookup k with
 |none=>rw[if_neg (by simp)];exact OA h
 |some w=>
  rw[if_pos (by simp),Oz,h]
  rfl
end
structure di(B:Int)(es:List (Int×V)):Prop where
 nd:(es.map (·.1)).Nodup
 r:∀ k∈es.map (·.1),0<=k∧k<B
theorem di.nil{B:Int}:di B []:=⟨abC,λk h=>nomatch h⟩
theorem OB{es:List (Int×V)}{k:Int}(h:es.lookup k=none):k ∉ es.map (·.1):=by
 intro m
 obtain⟨p,hp,e⟩:=aau.mp m
 have:=agN.mp h p hp
 simp[e]at this
theorem di.put{B:Int}{es:List (Int×V)}(h:di B es){k:Int}(h1:0<=k)(h2:k<B)(v:V):di B (dput es k v):=by
 delta dput
 split
 ·have e:(es.map λp=>if p.1=k then (p.1,v)else p).map (·.1)=es.map (·.1):=by
   rw[abP]
   refine abJ λp _=>?_
   show(if p.1=k then (p.1,v)else p).1=p.1
   split<;>rfl
  exact⟨by rw[e];exact h.nd,by rw[e];exact h.r⟩
 ·rename_i hn
  have hn:es.lookup k=none:=by cases q:es.lookup k with |none=>rfl |some _=>rw[q]at hn;exact absurd rfl hn
  have hm:=OB hn
  refine⟨?_,λj hj=>?_⟩
  ·rw[aaq,aaW]
   exact⟨h.nd,by simp,λa ha b hb=>by simp at hb;rintro rfl;exact hm (hb▸ha)⟩
  ·rw[aaq]at hj
   rcases aav.mp hj with hj |hj
   ·exact h.r j hj
   ·simp at hj;subst hj;exact⟨h1,h2⟩
theorem nodup_range:∀ (n:Nat) (l:List Nat),l.Nodup->(∀ k∈l,k<n)->l.length<=n
 | 0,l,_,h=>by
  cases l with
  |nil=>simp
  |cons a r=>exact absurd (h a (.head _)) (aed _)
 |n+1,l,nd,h=>by
  have h2:=nodup_range n (l.erase n) (nd.erase n) λk hk=>by
   have h3:=(nd.mem_erase_iff).mp hk
   have:=h k h3.2
   exact air (aew this) h3.1
  by_cases hm:n∈l
  ·have:=agH hm;rw[this]at h2;exact Nat.sub_le_iff_le_add.mp h2
  ·rw[List.erase_of_not_mem hm]at h2;exact ade h2
theorem di.len{B:Int}{es:List (Int×V)}(h:di B es):es.length<=B.toNat:=by
 have:=nodup_range B.toNat ((es.map (·.1)).map aiS) (by
  refine List.pairwise_map.mpr (ajF (λ{a b} ha hb ne=>?_) h.nd)
  intro e;exact ne ((tn (h.r a ha).1).trans ((congrArg _ e).trans (oq (h.r b hb).1)))) λk hk=>by
  obtain⟨a,ha,rfl⟩:=aau.mp hk
  exact NN (h.r a ha).1 (afF (h.r a ha).2 (Int.self_le_toNat B))
 simpa using this
theorem di.lim{B:Int}{es:List (Int×V)}(h:di B es)(hB:B<=1000):es.length<=Lite.lim:=by
 exact aah h.len (kle 1000 (agd.mpr hB) rfl)
structure bR(s:Dk):Prop where
 b:0<=s.B∧s.B<=1000
 z:0<=s.S∧s.S<=1000
 ke:di s.B s.ke
 le:di s.B s.le
 lv:∀ x v,s.le.lookup x=some v->∃ b,v=.bytes b∧(b.length:Int)=s.S
 un:∀ t∈s.un,0<=t.2.1∧t.2.1<s.B
 al:s.dead=false
 kv:∀ x v,s.ke.lookup x=some v->∃ b,v=.bytes b∧(b.length:Int)=s.S
 uz:∀ t∈s.un,(t.2.2.length:Int)=s.S
def aI(s:Dk)(x:Int):By:=match s.le.lookup x with
 |some (.bytes b)=>b
 |_=>zeros s.S
theorem sr{s:Dk}(h:bR s)(x:Int):sh s x=.bytes (aI s x):=by
 delta sh aI dW
 cases e:s.le.lookup x with
 |none=>rfl
 |some v=>obtain⟨b,rfl,_⟩:=h.lv x v e;rfl
theorem oJ{s:Dk}(h:bR s)(x:Int):((aI s x).length:Int)=s.S:=by
 delta aI
 cases e:s.le.lookup x with
 |none=>show((zeros s.S).length:Int)=_;delta zeros;rw[acE];have:=h.z;lia
 |some v=>obtain⟨b,rfl,hb⟩:=h.lv x v e;exact hb
theorem bR.wrote{s:Dk}(h:bR s){t:Nat}{x:Int}{b:By}(h1:0<=x)(h2:x<s.B)(hb:(b.length:Int)=s.S):bR (s.wrote t x b) where
 b:=h.b
 z:=h.z
 ke:=h.ke
 le:=h.le.put h1 h2 _
 lv y v e:=by
  have e:(dput s.le x (.bytes b)).lookup y=some v:=e
  rw[kO]at e
  split at e
  ·obtain rfl:=aae.inj e;exact⟨b,rfl,hb⟩
  ·exact h.lv y v e
 al:=h.al
 kv:=h.kv
 uz t ht:=by
  rcases aav.mp ht with ht |ht
  ·exact h.uz t ht
  ·cases ht with
   |head=>exact hb
   |tail _ ht=>contradiction
 un t ht:=by
  rcases aav.mp ht with ht |ht
  ·exact h.un t ht
  ·cases ht with
   |head=>exact⟨h1,h2⟩
   |tail _ ht=>contradiction
theorem mJ{s:Dk}{t:Nat}{x:Int}{b:By}(y:Int):aI (s.wrote t x b) y=if y=x then b else aI s y:=by
 have e:(s.wrote t x b).le=dput s.le x (.bytes b):=rfl
 delta aI
 rw[e,kO]
 by_cases h:y=x
 ·rw[if_pos h,if_pos h]
 ·rw[if_neg h,if_neg h];rfl
section
variable {X:Xp}
def su{α:Type}(I:Sp)(Q:Option α->Sp):Option α->Sp
 |none,s=>I s
 |some r,s=>Q (some r) s
theorem oK{α:Type}{bB:M Unit}{turn:V->M (Option α)}{Q:Option α->Sp}(I:List V->Sp)(hc:∀ vs st,I vs st->bB st=.ok () st)
  (step:∀ v vs st,I (v::vs) st->Wq (turn v st) (su (I vs) Q) X) (fin:∀ st,I [] st->Q none st) (vs:List V):∀ st,I vs st->Wq (Lite.loop bB turn vs st) Q X:=by
 induction vs with
 |nil=>
  intro st h
  refine af ?_
  show Wq (bB st) _ X
  rw[hc _ _ h]
  exact fin st h
 |cons v vs ih=>
  intro st h
  refine af ?_
  show Wq (bB st) _ X
  rw[hc _ _ h]
  refine af ((step v vs st h).mono (λr s q=>?_) λ_ _ q=>q)
  cases r with
  |none=>exact ih s q
  |some r=>exact q
def i7(I:Sp)(Q:Fl->Sp):Fl->Sp
 | .next,s=>I s
 | .ret r,s=>Q (.ret r) s
theorem oL{t:V->M Unit}{body:Lm}{v:V}{st:St}{I:Sp}{Q:Fl->Sp}(h:Wq (t v st) (jI body (i7 I Q) X) X):
  Wq (Lite.eA t (ax body>>=eR) v st) (su I λo s=>Wq (eD o s) Q X) X:=by
 unfold Lite.eA
 refine af (h.mono (λ_ s q=>af (q.mono (λfl s' q=>?_) λ_ _ q=>q)) λ_ _ q=>q)
 cases fl<;>exact q
theorem yM{b:Bool}{st:St}(h:b=true):Lite.guard b st=.ok () st:=by rw[h];rfl
theorem yN{a:Nat}{xs:List V}{st:St}(h:st.H[a]? =some (.list xs)):bV a st=.ok xs st:=by
 show Lite.dy jj a st=_
 unfold Lite.dy
 rw[h];rfl
theorem mK{a:Nat}{o:O}{st:St}(h:st.H[a]? =some o):Lite.obj a st=.ok o st:=by unfold Lite.obj;rw[h]
open Classical in
theorem sv{a:Nat}{xs:List V}{st:St}(h:st.H[a]? =some (.list xs)):bI (some (a,xs)) st=.ok () st:=by
 show(bV a>>=_) st=_
 exact(cb (yN h)).trans (yM (decide_eq_true rfl))
theorem i8{it:M V}{t:V->M Unit}{body:Lm}{Q:Fl->Sp}{lo:Lo}{H:Hp}{a:Nat}{xs:List V}(I:List V->Sp)(hl:acT xs.length 1000=true)
  (hi:Wq (it ⟨lo,H⟩) (λv s=>(aO (v=.ref a) (s.H[a]? =some (.list xs)) (I xs s))) X) (hI:∀ vs s,I vs s->s.H[a]? =some (.list xs))
  (step:∀ v vs s,I (v::vs) s->Wq (t v s) (jI body (i7 (I vs) Q) X) X) (fin:∀ s,I [] s->Q .next s):Wq (Lite.dH it t body ⟨lo,H⟩) Q X:=by
 unfold Lite.dH
 refine af (hi.mono (λv s q=>?_) λ_ _ q=>q)
 obtain⟨rfl,e,h⟩:=q
 have ei:iter (.ref a) s=.ok (xs,some (a,xs)) s:=by
  show(Lite.obj a>>=km a) s=_
  rw[cb (mK e)]
  show(Lite.guard (decide (xs.length<=lim))>>=λ_=>aak (xs,some (a,xs))) s=_
  rw[decide_eq_true (b6 hl)]
  rfl
 refine af ?_
 rw[ei]
 show Wq ((Lite.loop (bI (some (a,xs))) (λv=>aak v>>=Lite.eA t (ax body>>=eR)) xs>>=eD) s) Q X
 refine af<|oK I (λvs st h=>sv (hI vs st h)) (λv vs st h=>?_) (λst h=>fin st h) xs s h
 exact oL (step v vs st h)
theorem jP{it:M V}{t:V->M Unit}{body:Lm}{Q:Fl->Sp}{lo:Lo}{H:Hp}{a:Nat}{xs:List V}(I:Nat->Sp)(hl:acT xs.length 1000=true)
  (hi:Wq (it ⟨lo,H⟩) (λv s=>(aO (v=.ref a) (s.H[a]? =some (.list xs)) (I 0 s))) X) (hI:∀ k s,I k s->s.H[a]? =some (.list xs))
  (step:∀ k x s,xs[k]? =some x->I k s->Wq (t (.ref s.H.length) ⟨s.lo,s.H++[.tuple [.int k,x]]⟩) (jI body (i7 (I (k+1)) Q) X) X) (fin:∀ s,I xs.length s->Q .next s):Wq (Lite.iX it t body ⟨lo,H⟩) Q X:=by
 unfold Lite.iX
 refine af (hi.mono (λv s q=>?_) λ_ _ q=>q)
 obtain⟨rfl,e,h⟩:=q
 refine af<|aq<|af ?_
 rw[yN e]
 refine af<|bp (decide_eq_true (b6 hl)) ?_
 refine af<|oK (λvs st=>∃ k,(aO (vs=((aaw xs.length).drop k).map (λ(k:Nat)=>V.int (k:Int))) (k<=xs.length) (I k st))) (λvs st h=>by obtain⟨k,_,_,h⟩:=h;exact sv (hI k st h)) (λv vs st h=>?_) (λst h=>?_) _ s ⟨0,rfl,abh _,h⟩
 ·obtain⟨k,e1,e2,h⟩:=h
  have hk:k<xs.length:=by
   rcases aep k xs.length with q |q
   ·exact q
   ·rw[abW.mpr (by simpa using q)]at e1;contradiction
  rw[<-abx (h:=by simpa using hk),aaH]at e1
  obtain⟨rfl,rfl⟩:=abU.inj e1
  rw[abl]
  obtain⟨lo',H'⟩:=st
  have hx:xs[k]? =some xs[k]:=aaz hk
  have ed:iL xs (.int (k:Int)) ⟨lo',H'⟩=.ok (.ref H'.length) ⟨lo',H'++[.tuple [.int k,xs[k]]]⟩:=by
   show(Lite.aG xs[(k:Int).toNat]? >>=λx=>Lite.alloc (.tuple [.int k,x])) ⟨lo',H'⟩=_
   simp only[abk,hx]
   rfl
  refine af ?_
  rw[ed]
  refine oL ((step k xs[k] ⟨lo',H'⟩ hx h).mono (λ_ s q=>q.mono (λfl s' q=>?_) λ_ _ q=>q) λ_ _ q=>q)
  cases fl with
  |next=>exact⟨k+1,rfl,hk,q⟩
  |ret r=>exact q
 ·obtain⟨k,e1,e2,h⟩:=h
  have hk:k=xs.length:=by
   have:=abr.mp e1.symm
   have:=abW.mp this
   simp at this
   lia
  subst hk
  exact fin st h
abbrev sx{α:Type}(t:V->M Unit)(y:V)(Q:Unit->Sp)(X:Xp):α->Sp:=λ_ s=>Wq (t y s) Q X
theorem d6{t1 t2:V->M Unit}{Q:Unit->Sp}{a:Nat}{x y:V}{st:St}(e:st.H[a]? =some (.tuple [x,y]))(h:Wq (t1 x st) (sx t2 y Q X) X):Wq (dg [t1,t2] (.ref a) st) Q X:=by
 obtain⟨lo,H⟩:=st
 unfold dg
 refine af<|aq<|af<|yj e<|af<|bp rfl ?_
 exact af (h.mono (λ_ s q=>af q) λ_ _ q=>q)
end
section
variable {s:Dk} {F:List Cl} {H:Hp} {n:Nat} {Q:Qh} {X:Xp}
noncomputable def Dk.f1 (s:Dk):Dk:={s with f:=s.f+1}
noncomputable def Dk.kp (s:Dk) (ke:List (Int×V)):Dk:={s with ke:=ke}
noncomputable def Dk.nu (s:Dk) (u:Nat):Dk:={s with iq:=u,un:=[]}
theorem oM(h:Holds H (av s++F)):H[s.mC]? =some (.dict s.ke):=h.on _ (.tail _ (.head _))
theorem OC{u:Nat}(h:Holds H ((u,.list [])::(av s++F))):Holds (H.set s.dk (gT (s.nu u))) (av (s.nu u)++F):=by
 have h1:=Holds.dZ h (gT (s.nu u))
 refine Holds.sub (h1.perm (c':=(s.dk,gT (s.nu u))::(s.mC,.dict s.ke)::(s.mD,.dict s.le)::(u,.list [])::(s.iq,.list (s.un.map λt=>V.ref t.1))::(s.un.map cS++F)) ?_) ?_
 ·refine(aaS _ _ _).trans (aaU _ ?_)
  refine(aaS _ _ _).trans (aaU _ ?_)
  exact(aaS _ _ _).trans (aaU _ (ahA _))
 ·refine .cons_cons _ (.cons_cons _ (.cons_cons _ (.cons_cons _ (.cons _ ?_))))
  exact aaG _ _
def dR(l:List (Nat×Int×By))(ke:List (Int×V)):List (Int×V):=l.foldl (λke t=>dput ke t.2.1 (.bytes t.2.2)) ke
theorem oN{B:Int}:∀ {l:List (Nat×Int×By)} {ke:List (Int×V)},di B ke->(∀ t∈l,0<=t.2.1∧t.2.1<B)->di B (dR l ke)
 | [],_,h,_=>h
 |t::l,_,h,hl=>oN (l:=l) (h.put (hl t (.head _)).1 (hl t (.head _)).2 _) λu hu=>hl u (.tail _ hu)
abbrev Dk.fl(s:Dk)(u:Nat):Dk:=(s.f1.kp (dR s.un s.ke)).nu u
theorem yO(h:Holds H (av s++F))(ok:bR s)(hu:acT s.un.length 1000=true)(hw:s.cy->gn s.w=true)(x:s.cy->∀ H',Holds H' (av s.eJ++F)->X 95 H')(q:¬ s.cy->∀ H' u,Holds H' (av (s.fl u)++F)->Q .none H'):
  Cq (Rn 2 n (.ah 495) [.ref s.dk] H) Q X:=by
 rw[Mr]
 refine Cq.fin<|ag<|bh<|aW se rfl rfl<|aj rfl ⟨rfl,bq h,ar (r8 h ok.al ?_)⟩
 refine ag<|yK (k:=66) (j:=64) (o:=s.lf) (w:=s.f) rfl h (by decide) (by decide) rfl rfl ?_ λi hi hi2=>?_
 case refine_2=>exact ag<|bh<|aW yD rfl rfl<|aj rfl ⟨rfl,bq h,ar (yJ h (hw ⟨i,hi,hi2⟩) (x ⟨i,hi,hi2⟩))⟩
 intro hns
 have hns:¬ s.cy:=λ⟨k,e,hk⟩=>absurd (hns k e) (abI.mpr hk)
 refine ag<|ir (c':=av s.f1++F) rfl (bq h) (bA (by decide)) rfl rfl (h.dt _) λH h=>?_
 refine ag (i8 (a:=s.iq) (xs:=s.un.map λt=>V.ref t.1) (λvs st=>gf λd r ke x y=>(gd (s.un=d++r) (vs=r.map (λt=>V.ref t.1)) (di s.B ke∧ke=dR d s.ke) (st.lo=[some (.ref s.dk),x,y]) (Holds st.H (av (s.f1.kp ke)++F)))) (by rw[aad];exact hu)
  (aw rfl (bq (s:=s.f1) h) (bA (by decide)) rfl rfl ⟨rfl,jN (s:=s.f1) h,[],s.un,s.ke,_,_,rfl,rfl,⟨ok.ke,rfl⟩,rfl,h⟩) (λvs st I=>?_) (λv vs st I=>?_) λst I=>?_)
 ·obtain⟨d,r,ke,x,y,e1,e2,hk,hl,h⟩:=I
  exact jN (s:=s.f1.kp ke) h
 ·obtain⟨d,r,ke,x,y,e1,e2,hk,hl,h⟩:=I
  obtain⟨lo,H⟩:=st
  subst hl
  cases r with
  |nil=>contradiction
  |cons t r=>
   (injection e2;subst_vars)
   have ht:t∈s.un:=by rw[e1];exact aac _ (.head _)
   obtain⟨a,m,b⟩:=t
   obtain⟨r1,r2⟩:=ok.un _ ht
   have et:H[a]? =some (.tuple [.int m,.bytes b]):=h.on (cS (a,m,b)) (aao _ (.tail _ (.tail _ (.tail _ (.tail _ (abp ht))))))
   refine d6 et<|aF<|aF ?_
   refine ag<|aY<|aj rfl<|af<|aw rfl (bq (s:=s.f1.kp ke) h) (bA (by decide)) rfl rfl<|af<|aj rfl<|mI (c':=av (s.f1.kp (dput ke m (.bytes b)))++F) (oM (s:=s.f1.kp ke) h) (hk.1.lim ok.b.2) (h.dZ _) λH h=>?_
   exact⟨d++[(a,m,b)],r,_,_,_,by rw[e1];simp,rfl,⟨hk.1.put r1 r2 _,by rw[hk.2];unfold dR;rw[acO];rfl⟩,rfl,h⟩
 ·obtain⟨d,r,ke,x,y,e1,e2,hk,hl,h⟩:=I
  obtain⟨lo,H⟩:=st
  subst hl
  refine ag<|aY<|eU<|ar ⟨rfl,h,λH u h=>af<|aj rfl<|jK (h.on _ (.tail _ (.head _))) (bA (by decide)) rfl ?_⟩
  cases r with
  |cons a r=>exact nomatch e2
  |nil=>
   rw[aar]at e1
   have e:ke=dR s.un s.ke:=by rw[e1];exact hk.2
   subst e
   exact q hns _ u (OC h)
end
section
variable {X:Xp} {C:Ct} {lo:Lo} {H:Hp}
abbrev OD(e':M V)(Q:V->Sp)(X:Xp):V->Sp:=λv s=>∃ t,v=.bool t∧((t=true∧Wq (e' s) Q X)∨(t=false∧Q (.bool false) s))
theorem OE{Q:V->Sp}{e e':M V}(h:Wq (e ⟨lo,H⟩) (OD e' Q X) X):Wq (gs .And [e,e'] ⟨lo,H⟩) Q X:=by
 refine af (h.mono (λv s q=>?_) λ_ _ q=>q)
 obtain⟨t,rfl,⟨rfl,q⟩ | ⟨rfl,q⟩⟩:=q
 ·exact af<|yr q
 ·exact af<|yr q
theorem yP{Q:V->Sp}{a:Nat}{b:By}(e:H[a]? =some (.bG b))(hl:b.length<=lim)(q:Q (.bytes b) ⟨lo,H⟩):Wq (aP P0 C true (.ty "bytes") [.ref a] ⟨lo,H⟩) Q X:=by
 have e2:aP P0 C true (.ty "bytes") [.ref a] ⟨lo,H⟩=(Lite.obj a>>=pL) ⟨lo,H⟩:=by kernel_rfl
 rw[e2]
 exact af<|gx e<|af<|bp (decide_eq_true hl) q
theorem yQ{Q:V->Sp}{a:Nat}{b:By}(e:H[a]? =some (.bG b))(hl:b.length<=lim)(q:Q (.int b.length) ⟨lo,H⟩):Wq (aP P0 C true (.bi "len") [.ref a] ⟨lo,H⟩) Q X:=by
 have e2:aP P0 C true (.bi "len") [.ref a] ⟨lo,H⟩=(Lite.obj a>>=lE) ⟨lo,H⟩:=by kernel_rfl
 rw[e2]
 exact af<|gx e<|af<|bp (decide_eq_true hl) q
theorem OF{Q:V->Sp}{b:By}{c:List Cl}(hl:b.length<=lim)(hc:Holds H c)(q:∀ H' t,Holds H' ((t,.bG b)::c)->Q (.ref t) ⟨lo,H'⟩):Wq (aP P0 C true (.ty "bytearray") [.bytes b] ⟨lo,H⟩) Q X:=by
 have e2:aP P0 C true (.ty "bytearray") [.bytes b] ⟨lo,H⟩=(Lite.guard (decide (b.length<=lim))>>=λ_=>Lite.alloc (.bG b)) ⟨lo,H⟩:=by kernel_rfl
 rw[e2]
 exact af<|bp (decide_eq_true hl)<|d5 hc q
theorem OG{Q:Unit->Sp}{a:Nat}{b x:By}{c':List Cl}(e:H[a]? =some (.bG b))(hx:x.length=b.length)(hl:b.length<=lim)(hc:Holds (H.set a (.bG x)) c')(q:∀ H',Holds H' c'->Q () ⟨lo,H'⟩):Wq (jr (.ref a) (.bytes x) ⟨lo,H⟩) Q X:=by
 unfold jr
 refine af<|aq<|af<|yk e<|af<|aq<|af<|bp ?_ (q _ hc)
 rw[decide_eq_true hx,decide_eq_true hl];rfl
end
/-! a buffer -/
structure Bf where
 a:Nat
 d:Nat
 n:Int
 x:By
 h:Int
 p:Int
noncomputable def OH (b:Bf):List (Nat×V):=[(24,.int b.n),(36,.ref b.d),(37,.int b.h),(38,.int b.p)]
def mL(b:Bf):O:=.inst 316 (OH b)
def cg(b:Bf):List Cl:=[(b.a,mL b),(b.d,.bG b.x)]
section
variable {b:Bf} {F:List Cl} {H:Hp} {n:Nat} {Q:Qh} {X:Xp}
theorem dj(h:Holds H (cg b++F)):H[b.a]? =some (mL b):=h.on _ (.head _)
theorem sy(h:Holds H (cg b++F)):H[b.d]? =some (.bG b.x):=h.on _ (.tail _ (.head _))
noncomputable def Bf.free (b:Bf):Bool:=decide (b.h=0)&&decide (b.p=0)
theorem OI(h:Holds H (cg b++F))(q:Q (.bool b.free) H):Cq (Rn 1 n (.ah 243) [.ref b.a] H) Q X:=by
 rw[Km]
 unfold Bf.free at q
 refine Cq.fin<|ag<|cQ<|OE<|jJ<|aw rfl (dj h) (dh (by decide)) rfl rfl<|aq<|gB (r:=decide (b.h=0)) rfl ⟨_,rfl,?_⟩
 cases hh:decide (b.h=0)with
 |false=>rw[hh]at q;exact .inr ⟨rfl,q⟩
 |true=>
  rw[hh]at q
  exact .inl ⟨rfl,jJ<|aw rfl (dj h) (dh (by decide)) rfl rfl<|aq<|gB (r:=decide (b.p=0)) rfl q⟩
theorem yR(h:Holds H (cg b++F))(hl:b.x.length<=lim)(q:Q (.bytes b.x) H):Cq (Rn 1 n (.ah 250) [.ref b.a] H) Q X:=by
 rw[Kp]
 exact Cq.fin<|ag<|cQ<|aR<|au<|aw rfl (dj h) (dh (by decide)) rfl rfl<|ar<|yP (sy h) hl q
theorem yS(h:Holds H (cg b++F)){x:By}(hl:b.x.length<=lim)(hx:x.length=b.x.length)(q:∀ H',Holds H' (cg {b with x:=x}++F)->Q .none H'):Cq (Rn 1 n (.ah 278) [.ref b.a,.bytes x] H) Q X:=by
 rw[Kt]
 refine Cq.fin<|ag<|dC<|af<|aR<|ba rfl<|r7 (by rw[hx];exact hl) ?_
 refine bu<|aR<|au<|aw rfl (dj h) (dh (by decide)) rfl rfl<|ar<|yQ (sy h) hl<|yt (r:=false) (decide_eq_true (congrArg agy hx)) ⟨rfl,?_⟩
 exact ag<|aY<|aj rfl<|af<|aw rfl (dj h) (dh (by decide)) rfl rfl<|OG (c':=cg {b with x:=x}++F) (sy h) hx hl (h.dZ _) λH h=>q _ h
end
/-! the cache -/
structure Ch where
 ca:Nat
 row:Nat
 cj:Nat
 most:Int
 size:Int
 hits:Int
 reads:Int
 writes:Int
 ak:List Bf
 bn:List (Int×V)
noncomputable def yT (s:Dk) (c:Ch):List (Nat×V):=[(8,.ref s.dk),(14,.int c.most),(12,.int c.size),(43,.ref c.row),(44,.ref c.cj),(45,.int c.hits),(46,.int c.reads),(2,.int c.writes)]
def eX(s:Dk)(c:Ch):O:=.inst 435 (yT s c)
noncomputable def dI (l:List Bf):O:=.list (l.map λb=>V.ref b.a)
def d7(s:Dk)(c:Ch):List Cl:=(c.ca,eX s c)::(c.row,dI c.ak)::(c.cj,.dict c.bn)::c.ak.flatMap cg
abbrev DC(s:Dk)(c:Ch)(F:List Cl):List Cl:=d7 s c++(av s++F)
structure oO(s:Dk)(l:List Bf):Prop where
 nd:(l.map (·.n)).Nodup
 r:∀ b∈l,0<=b.n∧b.n<s.B
 z:∀ b∈l,(b.x.length:Int)=s.S
 p:∀ b∈l,0<=b.p
structure bC(s:Dk)(c:Ch):Prop where
 dk:bR s
 ak:oO s c.ak
 clean:∀ b∈c.ak,b.p=0->b.h=0->b.x=aI s b.n
 bn:∀ k,c.bn.lookup k=(c.ak.find? λb=>b.n==k).map λb=>V.ref b.a
 key:di s.B c.bn
 len:(c.ak.length:Int)<=c.most
 most:c.most<=1000
 size:c.size=s.S
theorem yU{l:List Bf}{k:Int}{b:Bf}(h:l.find? (λb=>b.n==k)=some b):b.n=k∧bT λl1 l2=>l=l1++b::l2:=by
 refine⟨by simpa using adx h,?_⟩
 exact .of (ady (abv h))
theorem i9{l1 l2:List Bf}{b:Bf}(nd:((l1++b::l2).map (·.n)).Nodup):(l1++b::l2).find? (λx=>x.n==b.n)=some b:=by
 simp only[aaq,aaH]at nd
 have n1:=aaW.mp nd
 rw[abF]
 have:l1.find? (λx=>x.n==b.n)=none:=by
  rw[acX]
  intro x hx e
  have e:x.n=b.n:=by simpa using e
  exact n1.2.2 x.n (abp hx) b.n (.head _) e
 rw[this]
 simp
section
variable {s:Dk} {c:Ch} {F:List Cl} {H:Hp} {n:Nat} {Q:Qh} {X:Xp}
theorem bF(h:Holds H (DC s c F)):H[c.ca]? =some (eX s c):=h.on _ (.head _)
theorem mM(h:Holds H (DC s c F)):H[c.row]? =some (dI c.ak):=h.on _ (.tail _ (.head _))
theorem jQ(h:Holds H (DC s c F)):H[c.cj]? =some (.dict c.bn):=h.on _ (.tail _ (.tail _ (.head _)))
theorem gU(h:Holds H (DC s c F)):Holds H (av s++(d7 s c++F)):=h.front
theorem yV{s':Dk}(h:Holds H (av s'++(d7 s c++F)))(e:s'.dk=s.dk):Holds H (DC s' c F):=by
 have:d7 s' c=d7 s c:=by delta d7 eX yT;simp only[e]
 show Holds H (d7 s' c++(av s'++F))
 simp only[this];exact h.front
theorem yW(c:Ch)(l1 l2:List Bf)(b:Bf):DC s {c with ak:=l1++b::l2} F=((c.ca,eX s c)::(c.row,dI (l1++b::l2))::(c.cj,.dict c.bn)::l1.flatMap cg)++(cg b++(l2.flatMap cg++(av s++F))):=by
 show d7 s _++(av s++F)=_
 delta d7
 simp only[abK,acn,aaf,acV]
 rfl
def i'(s:Dk)(c:Ch)(l1 l2:List Bf)(b:Bf)(F:List Cl):List Cl:=((c.ca,eX s c)::(c.row,dI (l1++b::l2))::(c.cj,.dict c.bn)::l1.flatMap cg)++(l2.flatMap cg++(av s++F))
theorem fu{l1 l2:List Bf}{b:Bf}(e:c.ak=l1++b::l2)(h:Holds H (DC s c F)):Holds H (cg b++i' s c l1 l2 b F):=by
 have:DC s c F=DC s {c with ak:=l1++b::l2} F:=by rw[<-e]
 simp only[this,yW]at h
 exact h.front
theorem kP{l1 l2:List Bf}{b b':Bf}(e:b'.a=b.a)(h:Holds H (cg b'++i' s c l1 l2 b F)):Holds H (DC s {c with ak:=l1++b'::l2} F):=by
 simp only[yW]
 have:dI (l1++b'::l2)=dI (l1++b::l2):=by delta dI;simp[e]
 simp only[this]
 exact h.front
theorem OJ(h:Holds H (DC s c F)){x:Int}(h1:0<=x)(h2:x<s.B)(q:Q .none H):Cq (Rn 1 n (.ah 341) [.ref c.ca,.int x] H) Q X:=by
 rw[KL]
 refine Cq.fin<|ag<|cR<|dD<|af<|af<|aR<|ba rfl ?_
 refine yu<|du<|aq ?_
 refine dD<|af<|af<|aq<|mB<|aj rfl<|jM (decide_eq_true h1) ?_
 refine bu<|af<|aw rfl (bF h) (bU (by decide)) rfl rfl<|gS (bq (gU h)) (bA (by decide)) rfl rfl<|fp (decide_eq_true h2) ?_
 exact q
theorem OK{a:Nat}{lo:Lo}{Q:Bool->Sp}(q:Q false ⟨lo,H⟩):Wq (cF .IsNot (.ref a) (.ref a) ⟨lo,H⟩) Q X:=by
 show Wq ((sameRef a a>>=λb=>aak (!b)) ⟨lo,H⟩) Q X
 refine af ?_
 unfold sameRef
 rw[if_pos rfl]
 exact q
theorem oP(h:Holds H (DC s c F))(ok:bC s c){l1 l2:List Bf}{b:Bf}(e:c.ak=l1++b::l2)(hh:b.h≠0)(q:Q .none H):Cq (Rn 1 n (.ah 348) [.ref c.ca,.ref b.a] H) Q X:=by
 have hb:=dj (fu e h)
 have hf:c.bn.lookup b.n=some (.ref b.a):=by simp only[ok.bn,e,i9 (by rw[<-e];exact ok.ak.nd)];rfl
 rw[KP]
 refine Cq.fin (ag<|dC<|dD<|af<|oH<|aw rfl (bF h) (bU (by decide)) rfl rfl ⟨rfl,jQ h,au<|aw rfl hb (dh (by decide)) rfl rfl<|ar ⟨jQ h,.inl ⟨_,rfl,?_⟩⟩⟩)
 have eg:(dW c.bn b.n).getD V.none=.ref b.a:=by delta dW;rw[hf];rfl
 rw[eg]
 refine bu<|aj rfl (OK ?_)
 refine dD<|af<|aw rfl hb (dh (by decide)) rfl rfl<|bu<|aq<|gB (r:=false) (decide_eq_false hh) ⟨rfl,?_⟩
 exact q
end
section
variable {X:Xp} {C:Ct} {lo:Lo} {H:Hp}
theorem OL:P0.eqs.contains 316=true:=by kernel_rfl
abbrev OM(a b:Nat)(xs zs:List V)(Q:V->Sp):V->Sp:=λx s=>cB (x=.ref b) (s.H[a]? =some (.list xs)) (∀ x∈xs,gk s.H x=some 316) (Q .none ⟨s.lo,s.H.set a (.list zs)⟩)
theorem ON{Q:V->Sp}{a b:Nat}{xs ys zs:List V}{o v:M V}(hl:acT xs.length 1000=true)(hx:xs=ys++.ref b::zs)(hn:V.ref b ∉ ys)
  (h:Wq (o ⟨lo,H⟩) (mH a (.list xs) (sg v (OM a b xs (ys++zs) Q) X)) X):Wq (Lite.aH P0 C o "remove" [v] ⟨lo,H⟩) Q X:=by
 refine kN (h.mono (λov s q=>?_) λ_ _ q=>q)
 obtain⟨rfl,e,q⟩:=q
 refine oG (f:=.bi "list.remove") e (by kernel_rfl)<|au (q.mono (λx s'' q=>ar ?_) λ_ _ q=>q)
 obtain⟨rfl,e',hc,q⟩:=q
 have e2:aP P0 C true (.bi "list.remove") [.ref a,.ref b] s''=(do
   let xs<-Lite.bV a
   let H<-heap
   let C<-Lite.aG (gk H (.ref b))
   Lite.guard (P0.eqs.contains C&&decide (xs.length<=lim)&&xs.all (λx=>gk H x==some C))
   let k<-Lite.aG (xs.findIdx? (isRef b))
   Lite.put a (.list (xs.eraseIdx k))
   return V.none:M V) s'':=by kernel_rfl
 show Wq (aP P0 C true (.bi "list.remove") [.ref a,.ref b] s'') Q X
 rw[e2]
 have hb:gk s''.H (.ref b)=some 316:=hc _ (by rw[hx];simp)
 have hk:xs.findIdx? (isRef b)=some ys.length:=by
  rw[hx,List.findIdx?_append]
  have:ys.findIdx? (isRef b)=none:=agE.mpr λx hx'=>by
   cases h:isRef b x with
   |false=>rfl
   |true=>exact absurd (vR h▸hx') hn
  rw[this,ahP,show isRef b (.ref b)=true from beq_self_eq_true b]
  show some (0+ys.length)=_
  rw[agc]
 have he:xs.eraseIdx ys.length=ys++zs:=by rw[hx,afB (aaZ _)];simp
 have hall:(xs.all λx=>gk s''.H x==some 316)=true:=aaV.mpr λx hx=>by rw[hc x hx];rfl
 refine af<|il e'<|af ?_
 show Wq _ _ X
 refine af<|bJ hb<|af<|bp ?_<|af<|bJ hk<|af<|mA ?_
 ·rw[OL,decide_eq_true (b6 hl),hall];rfl
 ·rw[he];exact q
end
section
variable {s:Dk} {c:Ch} {F:List Cl} {H:Hp} {n:Nat} {Q:Qh} {X:Xp} {l1 l2:List Bf} {b:Bf}
noncomputable def Bf.hold (b:Bf) (k:Int):Bf:={b with h:=k}
noncomputable def Bf.pin (b:Bf) (k:Int):Bf:={b with p:=k}
noncomputable def Ch.with (c:Ch) (l:List Bf):Ch:={c with ak:=l}
theorem OO(h:Holds H (DC s c F)){x:V}(hx:x∈c.ak.map λb=>V.ref b.a):gk H x=some 316:=by
 obtain⟨b,hb,rfl⟩:=aau.mp hx
 obtain⟨l1,l2,e⟩:=ady hb
 show(H[b.a]?.bind lr).map (·.1)=some 316
 rw[dj (fu e h)]
 rfl
theorem OP(h:Holds H (DC s c F))(e:c.ak=l1++b::l2):V.ref b.a ∉ l1.map λb=>V.ref b.a:=by
 intro m
 obtain⟨b',hb',e'⟩:=aau.mp m
 obtain⟨m1,m2,rfl⟩:=ady hb'
 have ea:b'.a=b.a:=qk e'
 have e2:c.ak=m1++b'::(m2++b::l2):=by simp only[e];simp
 have hb:=fu e2 h
 have nd:=hb.nd
 have:b.a∈(i' s c m1 (m2++b::l2) b' F).map (·.1):=by
  refine aau.mpr ⟨(b.a,mL b),?_,rfl⟩
  unfold i'
  refine aac _ (aao _ ?_)
  simp only[abK,acn]
  exact aac _ (.head _)
 simp only[aaq]at nd
 exact(aaW.mp nd).2.2 b'.a (.head _) b.a this ea
theorem OQ:(DC s (c.with (l1++b::l2)) F).Perm ((c.ca,eX s c)::(c.row,dI (l1++b::l2))::(c.cj,.dict c.bn)::((l1++l2++[b]).flatMap cg++(av s++F))):=by
 show(((c.ca,eX s c)::(c.row,dI (l1++b::l2))::(c.cj,.dict c.bn)::(l1++b::l2).flatMap cg)++(av s++F)).Perm _
 refine aaU _ (aaU _ (aaU _ (List.Perm.append_right _ ?_)))
 simp only[abK,acn,abK,abK,acn,age,aar,aaf]
 exact adA _ adJ
theorem sz(h:Holds H (DC s c F))(ok:bC s c)(e:c.ak=l1++b::l2)(hh:b.h=1)(q:∀ H',Holds H' (DC s (c.with (l1++l2++[b.hold 0])) F)->Q .none H'):Cq (Rn 2 n (.ah 369) [.ref c.ca,.ref b.a] H) Q X:=by
 rw[K9]
 refine Cq.fin<|ag<|bh<|aW oE rfl rfl<|aj rfl ⟨rfl,bF h,au<|aj rfl<|ar (oP h ok e (by rw[hh];decide) ?_)⟩
 have hb:=fu e h
 refine ag<|sm (c':=cg (b.hold (b.h-1))++i' s c l1 l2 b F) rfl (dj hb) (dh (by decide)) rfl rfl (hb.dt _) λH h=>?_
 have h0:b.h-1=0:=by rw[hh];rfl
 rw[h0]at h
 have hI:Holds H (DC s (c.with (l1++b.hold 0::l2)) F):=kP (b:=b) rfl h
 have hlen:acT ((l1++b.hold 0::l2).map λb=>V.ref b.a).length 1000=true:=by
  have:=ok.len;have:=ok.most
  rw[e]at*
  refine aaJ ?_
  simp only[aad,aag,abi]at*
  lia
 refine ag<|N8<|af<|aw rfl (dj (b:=b.hold 0) h) (dh (by decide)) rfl rfl<|bu<|aq<|gB (r:=true) rfl ⟨rfl,?_⟩
 refine ag<|bh<|ON (ys:=l1.map λb=>V.ref b.a) (zs:=l2.map λb=>V.ref b.a) hlen (by simp[Bf.hold]) (OP (b:=b.hold 0) (c:=c.with (l1++b.hold 0::l2)) hI rfl)<|aw rfl (bF (c:=c.with (l1++b.hold 0::l2)) hI) (bU (by decide)) rfl rfl ⟨rfl,mM (c:=c.with (l1++b.hold 0::l2)) hI,aj rfl ⟨rfl,mM (c:=c.with (l1++b.hold 0::l2)) hI,λx hx=>OO (c:=c.with (l1++b.hold 0::l2)) hI hx,?_⟩⟩
 have hP:=(hI.perm OQ).dZ (.list ((l1.map λb=>V.ref b.a)++l2.map λb=>V.ref b.a))
 have hl2:((l1.map λb=>V.ref b.a)++l2.map λb=>V.ref b.a).length<lim:=by
  have:=b6 hlen
  simp only[aad,aag,abi]at*
  lia
 refine ag<|bh<|i0<|aw rfl (hP.on _ (.head _)) (bU (by decide)) rfl rfl ⟨rfl,hP.on _ (.tail _ (.head _)),aj rfl ⟨hP.on _ (.tail _ (.head _)),hl2,?_⟩⟩
 have er:O.list (((l1.map λb=>V.ref b.a)++l2.map λb=>V.ref b.a)++[.ref b.a])=dI (l1++l2++[b.hold 0]):=by unfold dI;simp[Bf.hold]
 rw[er]
 exact q _ (hP.dZ _)
end
section
variable {s:Dk} {c:Ch} {F:List Cl} {H:Hp} {n:Nat} {Q:Qh} {X:Xp} {l1 l2:List Bf} {b:Bf}
theorem yX{a:Nat}{lo:Lo}{Q:Bool->Sp}(q:Q false ⟨lo,H⟩):Wq (cF .Is (.ref a) .none ⟨lo,H⟩) Q X:=q
theorem yY{lo:Lo}{Q:Bool->Sp}(q:Q true ⟨lo,H⟩):Wq (cF .Is .none .none ⟨lo,H⟩) Q X:=q
theorem yZ(ok:bC s c)(e:c.ak=l1++b::l2):(dW c.bn b.n).getD V.none=.ref b.a:=by
 unfold dW
 simp only[ok.bn,e,i9 (by rw[<-e];exact ok.ak.nd)];rfl
noncomputable def Ch.w1 (c:Ch):Ch:={c with writes:=c.writes+1}
theorem kQ{x:Int}(h:x<=1000):x<=(lim:Int):=by unfold lim;lia
theorem mN{l:By}{S:Int}(h:(l.length:Int)=S)(h2:S<=1000):l.length<=lim:=by unfold lim;lia
theorem OR(h:Holds H (DC s c F))(ok:bC s c)(e:c.ak=l1++b::l2)(hh:b.h≠0)(hu:s.un.length<1000)(hw:s.fq->gn s.w=true)(y:s.fq->∀ H',Holds H' (av s.eJ++F)->X 95 H')(q:¬ s.fq->∀ H' t,Holds H' (DC (s.wrote t b.n b.x) c.w1 F)->Q .none H'):Cq (Rn 3 n (.ah 390) [.ref c.ca,.ref b.a] H) Q X:=by
 have hm:b∈c.ak:=by rw[e];exact aac _ (.head _)
 obtain⟨r1,r2⟩:=ok.ak.r b hm
 have hz:=ok.ak.z b hm
 have hb:=fu e h
 rw[Lp]
 refine Cq.fin<|ag<|bh<|aW oE rfl rfl<|aj rfl ⟨rfl,bF h,au<|aj rfl<|ar (oP h ok e hh ?_)⟩
 refine ag<|bh<|aW yC rfl rfl<|aw rfl (bF h) (bU (by decide)) rfl rfl ⟨rfl,bq (gU h),au<|aw rfl (dj hb) (dh (by decide)) rfl rfl<|au<|aW yz rfl rfl<|aj rfl ⟨rfl,dj hb,ar (yR hb (mN hz ok.dk.z.2)<|ar ?_)⟩⟩
 refine yL (gU h) r1 r2 hz (kQ ok.dk.z.2) (ok.dk.le.lim ok.dk.b.2) (by unfold lim;lia) ok.dk.al hw (λz H h=>y z H (Holds.sub h (abj (aaM _) (aaG _ _)))) λen H t h=>?_
 have h:=yV h rfl
 exact ag<|ir (c':=DC (s.wrote t b.n b.x) c.w1 F) rfl (bF h) (bU (by decide)) rfl rfl (h.dt _) λH h=>q en _ _ h
theorem sC(h:Holds H (DC s c F))(ok:bR s)(hu:acT s.un.length 1000=true)(hw:s.cy->gn s.w=true)(y:s.cy->∀ H',Holds H' (av s.eJ++F)->X 95 H')(q:¬ s.cy->∀ H' u,Holds H' (DC (s.fl u) c F)->Q .none H'):Cq (Rn 3 n (.ah 397) [.ref c.ca] H) Q X:=by
 rw[Ls]
 refine Cq.fin<|ag<|bh<|aW yE rfl rfl<|aw rfl (bF h) (bU (by decide)) rfl rfl ⟨rfl,bq (gU h),ar (yO (gU h) ok hu hw (λz H h=>y z H (Holds.sub h (abj (aaM _) (aaG _ _)))) λe H u h=>?_)⟩
 exact q e _ u (yV h rfl)
end
section
variable {X:Xp} {lo:Lo} {H:Hp}
theorem mO{α:Type}{Q:α->Sp}{a:Nat}{o:O}{f:Nat->O->M α}(e:H[a]? =some o)(h:Wq (f a o ⟨lo,H⟩) Q X):Wq ((bx (.ref a)>>=λa=>Lite.obj a>>=f a) ⟨lo,H⟩) Q X:=af<|bJ rfl<|af<|gx e h
theorem OS{Q:Nat->Sp}{xs:List V}{k:Nat}(hl:xs.length<=lim)(hk:k<xs.length)(q:Q k ⟨lo,H⟩):Wq (Lite.jq xs (k:Int) ⟨lo,H⟩) Q X:=by
 refine af<|bp (decide_eq_true hl)<|bJ (a:=k) ?_ q
 unfold place
 rw[if_pos (aaL k),abk,if_pos hk]
theorem OT{Q:Unit->Sp}{a:Nat}{es:List (Int×V)}{k:Int}{v:V}(e:H[a]? =some (.dict es))(hl:es.length<=lim)(hk:es.lookup k=some v)(q:Q () ⟨lo,H.set a (.dict (fz es k))⟩):Wq (jt (.ref a) (.int k) ⟨lo,H⟩) Q X:=
 mO (f:=λa=>pI a (.int k)) e<|af<|bp (decide_eq_true hl)<|af<|bJ rfl<|af<|bJ hk q
theorem OU{Q:Unit->Sp}{a k:Nat}{xs:List V}(e:H[a]? =some (.list xs))(hl:xs.length<=lim)(hk:k<xs.length)(q:Q () ⟨lo,H.set a (.list (xs.eraseIdx k))⟩):Wq (jt (.ref a) (.int k) ⟨lo,H⟩) Q X:=
 mO (f:=λa=>pI a (.int (k:Int))) e<|af<|bJ rfl<|af<|OS hl hk q
end
section
variable {s:Dk} {c:Ch} {F:List Cl} {H:Hp} {n:Nat} {Q:Qh} {X:Xp} {l1 l2:List Bf} {b:Bf}
theorem fX{H:Hp}{o:O}:(H++[o])[H.length]? =some o:=by simp
def Ch.gone(c:Ch)(l1 l2:List Bf)(b:Bf):Ch:={c with ak:=l1++l2,bn:=fz c.bn b.n}
theorem OV(h:Holds H (DC s c F))(e:c.ak=l1++b::l2):Holds ((H.set c.cj (.dict (fz c.bn b.n))).set c.row (.list ((c.ak.map λb=>V.ref b.a).eraseIdx l1.length))) (DC s (c.gone l1 l2 b) F):=by
 have h1:=(h.jL (.dict (fz c.bn b.n))).dZ (.list ((c.ak.map λb=>V.ref b.a).eraseIdx l1.length))
 have er:O.list ((c.ak.map λb=>V.ref b.a).eraseIdx l1.length)=dI (l1++l2):=by
  unfold dI
  rw[e,aaq,aaH,afB (by simp)]
  simp
 simp only[er]at h1 ⊢
 refine h1.sub ?_
 show(((c.ca,eX s c)::(c.row,dI (l1++l2))::(c.cj,O.dict (fz c.bn b.n))::(l1++l2).flatMap cg)++(av s++F)).Sublist ((c.ca,eX s c)::(c.row,dI (l1++l2))::(c.cj,O.dict (fz c.bn b.n))::(c.ak.flatMap cg++(av s++F)))
 refine .cons_cons _ (.cons_cons _ (.cons_cons _ (abj ?_ (aaM _))))
 rw[e,abK,abK,acn]
 exact abj (aaM _) (aaG _ _)
theorem OW{l:List Bf}{k:Nat}{b:Bf}(h:l[k]? =some b):bT λl1 l2=>l=l1++b::l2∧l1.length=k:=by
 obtain⟨hk,e⟩:=aan.mp h
 refine⟨l.take k,l.drop (k+1),?_,by simp;lia⟩
 simp only[<-e,abx,ahl]
theorem OX(h:Holds H (DC s c F))(ok:bC s c)(hf:(c.ak.length:Int)<c.most∨∃ b∈c.ak,b.free=true)
  (q1:(c.ak.length:Int)<c.most->Q .none H) (q2:∀ H' l1 l2 b,c.ak=l1++b::l2->b.free=true->Holds H' (DC s (c.gone l1 l2 b) F)->Q .none H'):Cq (Rn 2 n (.ah 362) [.ref c.ca] H) Q X:=by
 have hlen:acT (c.ak.map λb=>V.ref b.a).length 1000=true:=by
  have:=ok.len;have:=ok.most
  refine aaJ ?_
  rw[aad];lia
 rw[K4]
 refine Cq.fin<|ag<|cR<|af<|aR<|au<|aw rfl (bF h) (bU (by decide)) rfl rfl<|ar<|fK (mM h) (b6 hlen) ?_
 refine bu<|aw rfl (bF h) (bU (by decide)) rfl rfl<|fp (r:=decide ((c.ak.length:Int)<c.most)) (by rw[aad]) ?_
 cases hd:decide ((c.ak.length:Int)<c.most)with
 |true=>exact ag (q1 (of_decide_eq_true hd))
 |false=>
  have hd:=of_decide_eq_false hd
  obtain⟨b0,hb0,hfree⟩:=hf.resolve_left hd
  refine ag (jP (a:=c.row) (xs:=c.ak.map λb:Bf=>V.ref b.a) (λk st=>(aO (gf λx y z w v=>st.lo=[some (.ref c.ca),x,y,z,w,v]) (Holds st.H (DC s c F)) (∀ i b,i<k->c.ak[i]? =some b->b.free=false))) hlen
   (aw rfl (bF h) (bU (by decide)) rfl rfl ⟨rfl,mM h,⟨_,_,_,_,_,rfl⟩,h,λi b hi=>absurd hi (aed _)⟩) (λk st I=>mM I.2) (λk x st hx I=>?_) λst I=>?_)
  ·obtain⟨⟨x1,y1,z1,w1,v1,hl⟩,h,hnf⟩:=I
   obtain⟨lo,H⟩:=st
   subst hl
   rw[abu]at hx
   obtain⟨b,hb,rfl⟩:=aaR.mp hx
   obtain⟨l1,l2,e,hk⟩:=OW hb
   have h:=h.app [O.tuple [.int k,.ref b.a]]
   refine d6 fX<|aF<|aF ?_
   have hB:=fu e h
   refine ag<|cR<|af<|aW Og rfl rfl<|aj rfl ⟨rfl,dj hB,ar (OI hB<|du ?_)⟩
   cases hfr:b.free with
   |false=>
    refine fj ?_
    refine⟨⟨_,_,_,_,_,rfl⟩,h,λi b' hi e'=>?_⟩
    by_cases hik:i=k
    ·subst hik;rw[hb]at e';cases e';exact hfr
    ·exact hnf i b' (by lia) e'
   |true=>
    have hm:b∈c.ak:=by rw[e];exact aac _ (.head _)
    have hlk:c.bn.lookup b.n=some (.ref b.a):=by simp only[ok.bn,e,i9 (by rw[<-e];exact ok.ak.nd)];rfl
    refine ag<|af<|aw rfl (bF h) (bU (by decide)) rfl rfl<|af<|aw rfl (dj hB) (dh (by decide)) rfl rfl<|af<|OT (jQ h) (ok.key.lim ok.dk.b.2) hlk ?_
    have h2:=h.jL (.dict (fz c.bn b.n))
    refine ag<|af<|aw rfl (h2.on _ (.head _)) (bU (by decide)) rfl rfl<|af<|aj rfl<|af<|OU (k:=k) (h2.on _ (.tail _ (.head _))) (b6 hlen) ?_ ?_
    ·simp only[aad,e,aag,abi];lia
    ·refine q2 _ l1 l2 b e hfr ?_
     have:=OV h e
     rw[hk]at this
     exact this
  ·obtain⟨_,_,hnf⟩:=I
   obtain⟨i,hi⟩:=abG hb0
   have:=hnf i b0 (by rw[aad];exact(aan.mp hi).1) hi
   rw[hfree]at this;contradiction
end
section
variable {s:Dk} {c:Ch} {F:List Cl} {H:Hp} {n:Nat} {Q:Qh} {X:Xp} {l1 l2:List Bf} {b:Bf}
theorem OY{t:Nat}{x:Int}{o:By}(h:Holds H ((t,.inst 316 [])::F))(hl:o.length<=lim)(q:∀ H' d,Holds H' (cg ⟨t,d,x,o,0,0⟩++F)->Q .none H'):Cq (Rn 1 n (.ah 236) [.ref t,.int x,.bytes o] H) Q X:=by
 rw[Kj]
 refine Cq.fin<|ag<|aY<|aj rfl<|af<|aj rfl<|iu h.hd (dh (by decide)) rfl (h.dt (.inst 316 [(24,.int x)])) λH h=>?_
 refine ag<|aY<|aR<|ba rfl<|OF hl h λH d h=>?_
 refine af<|aj rfl<|iu (h.on _ (.tail _ (.head _))) (dh (by decide)) rfl (h.dZ (.inst 316 [(24,.int x),(36,.ref d)])) λH h=>?_
 refine ag<|aY<|aq<|af<|aj rfl<|iu (h.on _ (.tail _ (.head _))) (dh (by decide)) rfl (h.dZ (.inst 316 [(24,.int x),(36,.ref d),(37,.int 0)])) λH h=>?_
 refine ag<|aY<|aq<|af<|aj rfl<|iu (h.on _ (.tail _ (.head _))) (dh (by decide)) rfl (h.dZ (mL ⟨t,d,x,o,0,0⟩)) λH h=>?_
 exact q _ d (h.perm (aaS _ _ _))
structure Got(s:Dk)(c c':Ch)(l1 l2:List Bf)(b:Bf)(x:Int):Prop where
 e:c'.ak=l1++b::l2
 num:b.n=x
 held:b.h=1
 dat:b.x=match c.ak.find? (λb=>b.n==x)with |some b0=>b0.x |none=>aI s x
 pins:b.p=match c.ak.find? (λb=>b.n==x)with |some b0=>b0.p |none=>0
 ok:bC s c'
 old:∀ b'∈l1++l2,b'∈c.ak∧b'.n≠x
 keep:∀ b'∈c.ak,b'.n≠x->b'.p≠0->b'∈l1++l2
 ca:c'.ca=c.ca
 most:c'.most=c.most
noncomputable def Ch.hit (c:Ch):Ch:={c with hits:=c.hits+1}
theorem OZ{l1 l2:List Bf}{b b':Bf}{k:Int}(e:b'.n=b.n):((l1++b'::l2).find? λx=>x.n==k).map (λb=>V.ref b.a)=if b.a=b'.a then ((l1++b::l2).find? λx=>x.n==k).map (λb=>V.ref b.a)else ((l1++b'::l2).find? λx=>x.n==k).map (λb=>V.ref b.a):=by
 split
 ·rename_i ha
  simp only[abF,abF]
  cases l1.find? (λx=>x.n==k)with
  |some y=>rfl
  |none=>
   simp only[Option.none_or,acN,e]
   cases b.n==k<;>simp[ha]
 ·rfl
theorem oO.swap{l1 l2:List Bf}{b b':Bf}(h:oO s (l1++b::l2))(e:b'.n=b.n)(ex:(b'.x.length:Int)=s.S)(ep:0<=b'.p):oO s (l1++b'::l2):=by
 have mem:∀ {y},y∈l1++b'::l2->y=b'∨y∈l1++b::l2:=λ{y} hy=>by
  rcases aav.mp hy with hy |hy
  ·exact .inr (aao _ hy)
  ·cases hy with
   |head=>exact .inl rfl
   |tail _ hy=>exact .inr (aac _ (.tail _ hy))
 have hb:b∈l1++b::l2:=aac _ (.head _)
 refine⟨?_,λy hy=>?_,λy hy=>?_,λy hy=>?_⟩
 ·have:=h.nd
  simp only[aaq,aaH]at this ⊢
  rw[e];exact this
 ·rcases mem hy with rfl |hy
  ·rw[e];exact h.r b hb
  ·exact h.r y hy
 ·rcases mem hy with rfl |hy
  ·exact ex
  ·exact h.z y hy
 ·rcases mem hy with rfl |hy
  ·exact ep
  ·exact h.p y hy
theorem bC.swap{l1 l2:List Bf}{b b':Bf}(ok:bC s c)(e:c.ak=l1++b::l2)(e1:b'.n=b.n)(e2:b'.a=b.a)(ex:(b'.x.length:Int)=s.S)(ep:0<=b'.p)(cl:b'.p=0->b'.h=0->b'.x=aI s b'.n):bC s (c.with (l1++b'::l2)) where
 dk:=ok.dk
 ak:=by have:=ok.ak;rw[e]at this;exact this.swap e1 ex ep
 clean y hy:=by
  rcases aav.mp hy with hy |hy
  ·exact ok.clean y (by rw[e];exact aao _ hy)
  ·cases hy with
   |head=>exact cl
   |tail _ hy=>exact ok.clean y (by rw[e];exact aac _ (.tail _ hy))
 bn k:=by
  show c.bn.lookup k=((l1++b'::l2).find? λx=>x.n==k).map λb=>V.ref b.a
  rw[OZ (b:=b) e1,if_pos e2.symm,<-e]
  exact ok.bn k
 key:=ok.key
 len:=by
  have:=ok.len
  rw[e]at this
  show((l1++b'::l2).length:Int)<=c.most
  simp only[aag,abi]at this ⊢
  exact this
 most:=ok.most
 size:=ok.size
end
section
variable {s:Dk} {c:Ch} {F:List Cl} {H:Hp} {n:Nat} {Q:Qh} {X:Xp} {l1 l2:List Bf} {b:Bf}
noncomputable def Ch.oQ (c:Ch):Ch:={c with reads:=c.reads+1}
def Ch.add(c:Ch)(b:Bf):Ch:={c with ak:=c.ak++[b],bn:=dput c.bn b.n (.ref b.a)}
theorem sD{α:Type}{E X F:List α}:(X++(E++F)).Perm (E++(X++F)):=by
 rw[<-aaf,<-aaf]
 exact adJ.append_right F
theorem O0(h:Holds H ((b.a,mL b)::(b.d,.bG b.x)::(c.ca,eX s c)::(c.row,dI (c.ak++[b]))::(c.cj,.dict (dput c.bn b.n (.ref b.a)))::(c.ak.flatMap cg++(av s++F)))):Holds H (DC s (c.add b) F):=by
 have h:Holds H (cg b++(((c.ca,eX s c)::(c.row,dI (c.ak++[b]))::(c.cj,.dict (dput c.bn b.n (.ref b.a)))::c.ak.flatMap cg)++(av s++F))):=h
 have h:=h.perm sD
 have e:DC s (c.add b) F=((c.ca,eX s c)::(c.row,dI (c.ak++[b]))::(c.cj,.dict (dput c.bn b.n (.ref b.a)))::c.ak.flatMap cg)++(cg b++(av s++F)):=by
  show((c.ca,eX s c)::(c.row,dI (c.ak++[b]))::(c.cj,O.dict (dput c.bn b.n (.ref b.a)))::(c.ak++[b]).flatMap cg)++(av s++F)=_
  simp only[abK,acn,age,aar]
  simp only[acV,aaf]
 simp only[e];exact h
theorem bC.add(ok:bC s c)(hn:c.ak.find? (λy=>y.n==b.n)=none)(hl:(c.ak.length:Int)<c.most)(r:0<=b.n∧b.n<s.B)(z:(b.x.length:Int)=s.S)(hp:0<=b.p)(cl:b.p=0->b.h=0->b.x=aI s b.n):bC s (c.add b) where
 dk:=ok.dk
 ak:=by
  have mem:∀ {y},y∈c.ak++[b]->y=b∨y∈c.ak:=λ{y} hy=>by
   rcases aav.mp hy with hy |hy
   ·exact .inr hy
   ·simp at hy;exact .inl hy
  refine⟨?_,λy hy=>?_,λy hy=>?_,λy hy=>?_⟩
  ·show((c.ak++[b]).map (·.n)).Nodup
   rw[aaq,aaW]
   refine⟨ok.ak.nd,by simp,λa ha k hk=>?_⟩
   simp at hk
   subst hk
   rintro rfl
   obtain⟨y,hy,e⟩:=aau.mp ha
   have:=acX.mp hn y hy
   simp[e]at this
  ·rcases mem hy with rfl |hy
   ·exact r
   ·exact ok.ak.r y hy
  ·rcases mem hy with rfl |hy
   ·exact z
   ·exact ok.ak.z y hy
  ·rcases mem hy with rfl |hy
   ·exact hp
   ·exact ok.ak.p y hy
 clean y hy:=by
  rcases aav.mp hy with hy |hy
  ·exact ok.clean y hy
  ·simp at hy;subst hy;exact cl
 bn k:=by
  show(dput c.bn b.n (.ref b.a)).lookup k=((c.ak++[b]).find? λx=>x.n==k).map λb=>V.ref b.a
  rw[kO,ok.bn,abF]
  by_cases hk:k=b.n
  ·subst hk;rw[if_pos rfl,hn];simp
  ·rw[if_neg hk]
   have:(b.n==k)=false:=by simpa using acm hk
   cases c.ak.find? (λy=>y.n==k)<;>simp[this]
 key:=ok.key.put r.1 r.2 _
 len:=by
  show((c.ak++[b]).length:Int)<=c.most
  rw[aag];simp;lia
 most:=ok.most
 size:=ok.size
theorem O1(es:List (Int×V))(k j:Int):(fz es k).lookup j=if j=k then none else es.lookup j:=by
 unfold fz
 induction es with
 |nil=>simp
 |cons p r ih=>
  obtain⟨a,w⟩:=p
  rw[adN]
  by_cases ha:a=k
  ·rw[if_neg (by simp[ha]),ih,aay]
   by_cases hj:j=k
   ·rw[if_pos hj,if_pos hj]
   ·have:(j==a)=false:=by rw[ha];simpa using hj
    rw[if_neg hj,if_neg hj,this]
  ·rw[if_pos (by simp[ha]),aay,aay,ih]
   by_cases hj:j=k
   ·have:(j==a)=false:=by rw[hj];simpa using acm ha
    rw[this,if_pos hj]
   ·rw[if_neg hj,if_neg hj]
theorem y0{l1 l2:List Bf}{b:Bf}(nd:((l1++b::l2).map (·.n)).Nodup)(k:Int):(l1++l2).find? (λx=>x.n==k)=if k=b.n then none else (l1++b::l2).find? (λx=>x.n==k):=by
 rw[aaq,aaH]at nd
 have n1:=aaW.mp nd
 have n2:=aaI.mp n1.2.1
 by_cases hk:k=b.n
 ·rw[if_pos hk,acX]
  intro y hy e
  have e:y.n=k:=by simpa using e
  rcases aav.mp hy with hy |hy
  ·exact n1.2.2 y.n (abp hy) b.n (.head _) (e.trans hk)
  ·exact n2.1 (aau.mpr ⟨y,hy,e.trans hk⟩)
 ·rw[if_neg hk,abF,abF,acN]
  have:(b.n==k)=false:=by simpa using acm hk
  rw[this]
theorem bC.gone(ok:bC s c)(e:c.ak=l1++b::l2):bC s (c.gone l1 l2 b) where
 dk:=ok.dk
 ak:=by
  have sub:∀ y∈l1++l2,y∈c.ak:=λy hy=>by
   rw[e]
   rcases aav.mp hy with hy |hy
   ·exact aao _ hy
   ·exact aac _ (.tail _ hy)
  refine⟨?_,λy hy=>ok.ak.r y (sub y hy),λy hy=>ok.ak.z y (sub y hy),λy hy=>ok.ak.p y (sub y hy)⟩
  have:=ok.ak.nd
  rw[e]at this
  refine akh (aki _ ?_) this
  exact abj (aaM _) (acq _ _)
 clean y hy:=ok.clean y (by
  rw[e]
  rcases aav.mp hy with hy |hy
  ·exact aao _ hy
  ·exact aac _ (.tail _ hy))
 bn k:=by
  show(fz c.bn b.n).lookup k=((l1++l2).find? λx=>x.n==k).map λb=>V.ref b.a
  rw[O1,ok.bn,y0 (b:=b) (by rw[<-e];exact ok.ak.nd),<-e]
  split<;>rfl
 key:=by
  have sl:(fz c.bn b.n).Sublist c.bn:=List.filter_sublist
  exact⟨(sl.map _).nodup ok.key.nd,λk hk=>ok.key.r k ((sl.map _).subset hk)⟩
 len:=by
  have:=ok.len
  rw[e]at this
  show((l1++l2).length:Int)<=c.most
  simp only[aag,abi]at this ⊢
  lia
 most:=ok.most
 size:=ok.size
end
noncomputable abbrev y5 (a0:Nat) (a1:Int) (a2 a3:Option V):Lo:=[some (.ref a0),some (.int a1),a2,a3]
section
variable {s:Dk} {c:Ch} {F:List Cl} {H:Hp} {n:Nat} {Q:Qh} {X:Xp} {l1 l2:List Bf} {b:Bf}
theorem O2(h:Holds H (DC s c F))(ok:bC s c){x:Int}(h1:0<=x)(h2:x<s.B)(hn:c.ak.find? (λy=>y.n==x)=none)(hl:(c.ak.length:Int)<c.most){v3:Option V}{Q:Fl->Sp}
  (q:∀ H' t d,bC s (c.oQ.add ⟨t,d,x,aI s x,0,0⟩)->Holds H' (DC s (c.oQ.add ⟨t,d,x,aI s x,0,0⟩) F)->Q .next ⟨(y5 c.ca x (some (.ref t)) v3),H'⟩) {w:Option V}:
  Wq (ax [aE (ay P0 (Rn 2 n) (V.ah 316) [ae 1,aH P0 (Rn 2 n) ((ae 0)>>=gA P0 8) "read" [ae 1]]) (aD 2),(ae 0)>>=λo=>gA P0 46 o>>=λa=>(pure (V.int 1))>>=λb=>cE .Add a b>>=λr=>sA P0 46 o r>>=λ_=>pure .next,aE (ae 2) (λv=>((ae 0)>>=gA P0 44)>>=λo=>(ae 1)>>=λi=>dN o i v),bj (aH P0 (Rn 2 n) ((ae 0)>>=gA P0 43) "append" [ae 2])] ⟨(y5 c.ca x w v3),H⟩) Q X:=by
 have hz:=oJ ok.dk x
 refine ag<|aY<|aR<|au<|aj rfl<|au<|aW sf rfl rfl<|aw rfl (bF h) (bU (by decide)) rfl rfl ⟨rfl,bq (gU h),au<|aj rfl<|ar (sj (gU h) ok.dk.al h1 h2 ⟨ok.dk.z.1,kQ ok.dk.z.2⟩<|ar ?_)⟩
 simp only[sr ok.dk]
 have hlen:(c.ak.map λb=>V.ref b.a).length<lim:=by
  have:=ok.len;have:=ok.most
  simp only[aad];unfold lim;lia
 refine yp (init:=236) rfl (OY (h.new _) (mN hz ok.dk.z.2) λH d h=>⟨rfl,aF ?_⟩)
 generalize hb:(⟨_,d,x,aI s x,0,0⟩:Bf)=b at h
 have ha:V.ref b.a=V.ref b.a:=rfl
 subst hb
 refine ag<|ir rfl (h.on _ (.tail _ (.tail _ (.head _)))) (bU (by decide)) rfl rfl (h.jL (eX s c.oQ)) λH h=>?_
 refine ag<|aY<|aj rfl<|af<|aw rfl (h.on _ (.tail _ (.tail _ (.head _)))) (bU (by decide)) rfl rfl<|af<|aj rfl<|mI (h.on _ (.tail _ (.tail _ (.tail _ (.tail _ (.head _)))))) (ok.key.lim ok.dk.b.2) (Holds.setAt (l1:=[_,_,_,_]) h _) λH h=>?_
 refine ag<|bh<|i0<|aw rfl (h.on _ (.tail _ (.tail _ (.head _)))) (bU (by decide)) rfl rfl ⟨rfl,h.on _ (.tail _ (.tail _ (.tail _ (.head _)))),aj rfl ⟨h.on _ (.tail _ (.tail _ (.tail _ (.head _)))),hlen,?_⟩⟩
 refine q _ _ d ?_ ?_
 ·exact bC.add (c:=c.oQ) ⟨ok.dk,ok.ak,ok.clean,ok.bn,ok.key,ok.len,ok.most,ok.size⟩ hn hl ⟨h1,h2⟩ hz (acS 0) λ_ _=>rfl
 ·refine O0 ?_
  unfold dI
  simp only[aaq]
  exact h.N9 _
end
section
variable {s:Dk} {c:Ch} {F:List Cl} {H:Hp} {n:Nat} {Q:Qh} {X:Xp} {l1 l2:List Bf} {b:Bf}
theorem y6(h:Holds H (DC s c F))(e:c.ak=l1++b::l2)(hh:b.h=0){w0 w1 w3:Option V}(q:∀ H',Holds H' (DC s (c.with (l1++b.hold 1::l2)) F)->Q (.ref b.a) H'):
  Wq (ax [(ae 2)>>=λo=>gA P0 37 o>>=λa=>(pure (V.int 1))>>=λb=>cE .Add a b>>=λr=>sA P0 37 o r>>=λ_=>pure .next,bP (ae 2)] ⟨[w0,w1,some (.ref b.a),w3],H⟩) (cP Q) X:=by
 have hb:=fu e h
 have h1:b.h+1=1:=by rw[hh];rfl
 refine ag<|ir (c':=cg (b.hold (b.h+1))++i' s c l1 l2 b F) rfl (dj hb) (dh (by decide)) rfl rfl (hb.dt _) λH h=>?_
 rw[h1]at h
 unfold bQ
 refine ag<|cQ<|aj rfl ?_
 exact q _ (kP (b:=b) rfl h)
theorem mem_mid{y:Bf}(h:y∈l1++l2):y∈l1++b::l2:=by
 rcases aav.mp h with h |h
 ·exact aao _ h
 ·exact aac _ (.tail _ h)
theorem sE{y:Bf}(h:y∈l1++b::l2)(ne:y.n≠b.n):y∈l1++l2:=by
 rcases aav.mp h with h |h
 ·exact aao _ h
 ·cases h with
  |head=>exact absurd rfl ne
  |tail _ h=>exact aac _ h
theorem O3(nd:((l1++b::l2).map (·.n)).Nodup){y:Bf}(h:y∈l1++l2):y.n≠b.n:=by
 simp only[aaq,aaH]at nd
 have n1:=aaW.mp nd
 have n2:=aaI.mp n1.2.1
 rcases aav.mp h with h |h
 ·exactλe=>n1.2.2 y.n (abp h) b.n (.head _) e
 ·exactλe=>n2.1 (aau.mpr ⟨y,h,e⟩)
theorem sF(h:Holds H (DC s c F))(ok:bC s c)(idle:∀ b∈c.ak,b.h=0){x:Int}(h1:0<=x)(h2:x<s.B)(hf:(c.ak.length:Int)<c.most∨∃ b∈c.ak,b.free=true)
  (q:∀ H' c' l1 l2 b,Got s c c' l1 l2 b x->Holds H' (DC s c' F)->Q (.ref b.a) H'):Cq (Rn 3 n (.ah 355) [.ref c.ca,.int x] H) Q X:=by
 rw[KY]
 refine Cq.fin<|ag<|bh<|aW Oh rfl rfl<|aj rfl ⟨rfl,bF h,au<|aj rfl<|ar (OJ h h1 h2 ?_)⟩
 refine ag<|aY<|oH<|aw rfl (bF h) (bU (by decide)) rfl rfl ⟨rfl,jQ h,ba rfl ⟨jQ h,.inl ⟨_,rfl,aF ?_⟩⟩⟩
 cases hfd:c.ak.find? (λy=>y.n==x)with
 |some b0=>
  obtain⟨rfl,l1,l2,e⟩:=yU hfd
  have hm:b0∈c.ak:=abv hfd
  rw[yZ ok e]
  refine ag<|cR<|af<|aj rfl<|bu<|aq (yX ?_)
  refine ag<|ir (c':=DC s c.hit F) rfl (bF h) (bU (by decide)) rfl rfl (h.dt _) λH h=>?_
  refine y6 (c:=c.hit) h e (idle b0 hm) λH h=>q _ _ l1 l2 (b0.hold 1) ?_ h
  have okh:bC s c.hit:=⟨ok.dk,ok.ak,ok.clean,ok.bn,ok.key,ok.len,ok.most,ok.size⟩
  refine⟨rfl,rfl,rfl,by rw[hfd];rfl,by rw[hfd];rfl,okh.swap e rfl rfl (ok.ak.z b0 hm) (ok.ak.p b0 hm) (λ_ z=>nomatch z),λy hy=>⟨by rw[e];exact mem_mid hy,O3 (by rw[<-e];exact ok.ak.nd) hy⟩,λy hy hn _=>sE (b:=b0) (by rw[<-e];exact hy) hn,rfl,rfl⟩
 |none=>
  have hg:(dW c.bn x).getD V.none=.none:=by unfold dW;simp only[ok.bn,hfd];rfl
  rw[hg]
  refine ag<|cR<|af<|aj rfl<|bu<|aq (yY ?_)
  have fin:∀ (c1:Ch) (H:Hp),c1.ca=c.ca->c1.most=c.most->Holds H (DC s c1 F)->bC s c1->c1.ak.find? (λy=>y.n==x)=none->(c1.ak.length:Int)<c1.most->(∀ y∈c1.ak,y∈c.ak)->(∀ y∈c.ak,y.p≠0->y∈c1.ak)->
    bQ [aE (ay P0 (Rn 2 n) (V.ah 316) [ae 1,aH P0 (Rn 2 n) ((ae 0)>>=gA P0 8) "read" [ae 1]]) (aD 2),(ae 0)>>=λo=>gA P0 46 o>>=λa=>(pure (V.int 1))>>=λb=>cE .Add a b>>=λr=>sA P0 46 o r>>=λ_=>pure .next,aE (ae 2) (λv=>((ae 0)>>=gA P0 44)>>=λo=>(ae 1)>>=λi=>dN o i v),bj (aH P0 (Rn 2 n) ((ae 0)>>=gA P0 43) "append" [ae 2])]
     (bQ [(ae 2)>>=λo=>gA P0 37 o>>=λa=>(pure (V.int 1))>>=λb=>cE .Add a b>>=λr=>sA P0 37 o r>>=λ_=>pure .next,bP (ae 2)] (cP Q) X) X .next ⟨[some (.ref c.ca),some (.int x),some .none,none],H⟩:=by
   intro c1 H ec em h ok1 hn hl hs hk
   rw[<-ec]
   refine O2 h ok1 h1 h2 hn hl λH t d ok2 h=>?_
   refine y6 (l1:=c1.ak) (l2:=[]) (b:=⟨t,d,x,aI s x,0,0⟩) h rfl rfl λH h=>q _ _ c1.ak [] (Bf.hold ⟨t,d,x,aI s x,0,0⟩ 1) ?_ h
   refine⟨rfl,rfl,rfl,by rw[hfd];rfl,by rw[hfd];rfl,ok2.swap rfl rfl rfl (oJ ok.dk x) (acS 0) (λ_ z=>nomatch z),λy hy=>?_,λy hy hn' hp=>?_,ec,em⟩
   ·rw[aar]at hy
    refine⟨hs y hy,λz=>?_⟩
    have:=acX.mp hn y hy
    simp[z]at this
   ·rw[aar];exact hk y hy hp
  refine ag<|bh<|aW Oi rfl rfl<|aj rfl ⟨rfl,bF h,ar (OX h ok hf (λhl=>?_) λH l1 l2 b e hfr h=>?_)⟩
  ·exact fin c H rfl rfl h ok hfd hl (λ_ hy=>hy) λ_ hy _=>hy
  ·refine fin (c.gone l1 l2 b) H rfl rfl h (ok.gone e) ?_ ?_ (λy hy=>by rw[e];exact mem_mid hy) λy hy hp=>?_
   ·show(l1++l2).find? _=none
    simp only[y0 (b:=b) (by rw[<-e];exact ok.ak.nd),<-e,hfd]
    split<;>rfl
   ·have:=ok.len
    rw[e]at this
    show((l1++l2).length:Int)<c.most
    simp only[aag,abi]at this ⊢
    lia
   ·have hb:b.p=0:=by
     unfold Bf.free at hfr
     exact of_decide_eq_true (aab.mp hfr).2
    refine sE (b:=b) (by rw[<-e];exact hy) λz=>hp ?_
    have e1:=i9 (l1:=l1) (l2:=l2) (b:=b) (by rw[<-e];exact ok.ak.nd)
    obtain⟨m1,m2,e2⟩:=ady hy
    have e3:=i9 (l1:=m1) (l2:=m2) (b:=y) (by rw[<-e2];exact ok.ak.nd)
    simp only[<-e2,z,e]at e3
    rw[e1]at e3
    obtain rfl:=aae.inj e3
    exact hb
end
def view(s:Dk)(c:Ch)(k:Int):By:=match c.ak.find? λb=>b.n==k with
 |some b=>b.x
 |none=>aI s k
noncomputable def bS (c:Ch) (k:Int):Int:=match c.ak.find? λb=>b.n==k with
 |some b=>b.p
 |none=>0
structure Rest(s:Dk)(c:Ch):Prop where
 ok:bC s c
 idle:∀ b∈c.ak,b.h=0
def fL(c:Ch):Prop:=∃ ns:List Int,(ns.length:Int)<c.most∧∀ k,bS c k≠0->k∈ns
section
variable {s:Dk} {c c':Ch} {F:List Cl} {H:Hp} {n:Nat} {Q:Qh} {X:Xp} {l1 l2:List Bf} {b:Bf}
theorem kR{l:List Bf}(nd:(l.map (·.n)).Nodup)(h:b∈l):l.find? (λx=>x.n==b.n)=some b:=by
 obtain⟨l1,l2,e⟩:=ady h
 rw[e]at nd ⊢
 exact i9 nd
theorem y7{l ns:List Int}(nd:l.Nodup)(h:∀ k∈l,k∈ns):l.length<=ns.length:=by
 induction l generalizing ns with
 |nil=>simp
 |cons a r ih=>
  obtain⟨n1,n2⟩:=aaI.mp nd
  have ha:=h a (.head _)
  have:=ih (ns:=ns.erase a) n2 λk hk=>by
   have hne:k≠a:=λe=>n1 (e▸hk)
   exact(List.mem_erase_of_ne hne).mpr (h k (.tail _ hk))
  simp only[agH ha]at this
  exact Nat.add_le_of_le_sub (List.length_pos_of_mem ha) this
theorem sG(r:Rest s c)(f:fL c):(c.ak.length:Int)<c.most∨∃ b∈c.ak,b.free=true:=by
 obtain⟨ns,h1,h2⟩:=f
 by_cases hx:∃ b∈c.ak,b.free=true
 ·exact .inr hx
 ·left
  have:(c.ak.map (·.n)).length<=ns.length:=y7 r.ok.ak.nd λk hk=>by
   obtain⟨b,hb,rfl⟩:=aau.mp hk
   refine h2 _ λz=>hx ⟨b,hb,?_⟩
   unfold bS at z
   rw[kR r.ok.ak.nd hb]at z
   delta Bf.free
   simp only[decide_eq_true (r.idle b hb),decide_eq_true z];rfl
  rw[aad]at this
  lia
theorem Got.find{x:Int}(r:Rest s c)(g:Got s c c' l1 l2 b x)(k:Int)(hk:k≠x):view s c' k=view s c k∧bS c' k=bS c k:=by
 have nd':=g.ok.ak.nd
 have nd:=r.ok.ak.nd
 delta view bS
 cases e:c'.ak.find? (λb=>b.n==k)with
 |some b'=>
  have hm:=abv e
  have hn:b'.n=k:=by simpa using adx e
  rw[g.e]at hm
  have hm:=sE (b:=b) hm (by simp only[hn,g.num];exact hk)
  have:=kR nd (g.old b' hm).1
  rw[hn]at this
  rw[this];exact⟨rfl,rfl⟩
 |none=>
  cases e2:c.ak.find? (λb=>b.n==k)with
  |none=>exact⟨rfl,rfl⟩
  |some b0=>
   have hm:=abv e2
   have hn:b0.n=k:=by simpa using adx e2
   have hp:b0.p=0:=by
    rcases Int.decEq b0.p 0 with hp |hp
    ·have:=g.keep b0 hm (by rw[hn];exact hk) hp
     have hm':b0∈c'.ak:=by rw[g.e];exact mem_mid this
     have:=acX.mp e b0 hm'
     simp[hn]at this
    ·exact hp
   have:=r.ok.clean b0 hm hp (r.idle b0 hm)
   rw[hn]at this
   exact⟨this.symm,hp.symm⟩
theorem Got.sH{x:Int}(g:Got s c c' l1 l2 b x):b.x=view s c x:=g.dat
theorem Got.sI{x:Int}(g:Got s c c' l1 l2 b x):b.p=bS c x:=g.pins
theorem sJ{x:Int}(r:Rest s c)(g:Got s c c' l1 l2 b x){s':Dk}{b':Bf}(e1:b'.n=b.n)(e3:b'.h=0)(ok:bC s' (c'.with (l1++l2++[b'])))(hs:∀ k,k≠x->aI s' k=aI s k):
  Rest s' (c'.with (l1++l2++[b']))∧∀ k,view s' (c'.with (l1++l2++[b'])) k=(if k=x then b'.x else view s c k)∧bS (c'.with (l1++l2++[b'])) k=if k=x then b'.p else bS c k:=by
 refine⟨⟨ok,λy hy=>?_⟩,λk=>?_⟩
 ·rcases aav.mp hy with hy |hy
  ·exact r.idle y (g.old y hy).1
  ·simp at hy;subst hy;exact e3
 ·have ex:b'.n=x:=e1.trans g.num
  by_cases hk:k=x
  ·simp only[if_pos hk,if_pos hk]
   have:(c'.with (l1++l2++[b'])).ak.find? (λy=>y.n==k)=some b':=by
    have hb:b'∈(c'.with (l1++l2++[b'])).ak:=aac _ (.head _)
    have:=kR ok.ak.nd hb
    simp only[ex,<-hk]at this
    exact this
   delta view bS
   rw[this];exact⟨rfl,rfl⟩
  ·simp only[if_neg hk,if_neg hk]
   have hf:(c'.with (l1++l2++[b'])).ak.find? (λy=>y.n==k)=c'.ak.find? (λy=>y.n==k):=by
    show(l1++l2++[b']).find? _=_
    have h1:(b'.n==k)=false:=by simp only[ex];simpa using acm hk
    have h2:(b.n==k)=false:=by simp only[g.num];simpa using acm hk
    simp only[g.e,abF,abF,abF,acN,acN,h1,h2]
    cases l1.find? (λy=>y.n==k)<;>simp
   obtain⟨v1,v2⟩:=g.find r k hk
   constructor
   ·simp only[<-v1]
    delta view
    simp only[hf,hs k hk]
   ·simp only[<-v2]
    delta bS
    simp only[hf]
end
section
variable {s:Dk} {c c':Ch} {F:List Cl} {H:Hp} {n:Nat} {Q:Qh} {X:Xp} {l1 l2:List Bf} {b:Bf}
theorem find_perm{l l':List Bf}(nd:(l.map (·.n)).Nodup)(p:l.Perm l')(k:Int):l'.find? (λx=>x.n==k)=l.find? λx=>x.n==k:=by
 have nd':(l'.map (·.n)).Nodup:=(p.map _).nodup_iff.mp nd
 cases e:l.find? (λx=>x.n==k)with
 |some b=>
  have hm:=abv e
  have hn:b.n=k:=by simpa using adx e
  have:=kR nd' (p.mem_iff.mp hm)
  rw[hn]at this;exact this
 |none=>
  rw[acX]at e ⊢
  exactλx hx=>e x (p.mem_iff.mpr hx)
theorem bC.perm{l:List Bf}(ok:bC s c)(p:c.ak.Perm l):bC s (c.with l) where
 dk:=ok.dk
 ak:=⟨(p.map _).nodup_iff.mp ok.ak.nd,λb hb=>ok.ak.r b (p.mem_iff.mpr hb),λb hb=>ok.ak.z b (p.mem_iff.mpr hb),λb hb=>ok.ak.p b (p.mem_iff.mpr hb)⟩
 clean b hb:=ok.clean b (p.mem_iff.mpr hb)
 bn k:=by show c.bn.lookup k=(l.find? λx=>x.n==k).map λb=>V.ref b.a;rw[find_perm ok.ak.nd p];exact ok.bn k
 key:=ok.key
 len:=by show(l.length:Int)<=c.most;rw[<-p.length_eq];exact ok.len
 most:=ok.most
 size:=ok.size
theorem bC.roll{b':Bf}(ok:bC s (c.with (l1++b'::l2))):bC s (c.with (l1++l2++[b'])):=by
 refine bC.perm (c:=c.with (l1++b'::l2)) ok ?_
 simp only[aaf]
 refine adA _ ?_
 show([b']++l2).Perm (l2++[b'])
 exact adJ
theorem y8(h:Holds H (DC s c F))(r:Rest s c)(f:fL c){x:Int}(h1:0<=x)(h2:x<s.B)
  (q:∀ H' c2,Rest s c2->(∀ k,view s c2 k=view s c k∧bS c2 k=bS c k)->c2.ca=c.ca->c2.most=c.most->Holds H' (DC s c2 F)->Q (.bytes (view s c x)) H'):Cq (Rn 4 n (.ah 404) [.ref c.ca,.int x] H) Q X:=by
 rw[Lz]
 refine Cq.fin<|ag<|aY<|aW sa rfl rfl<|aj rfl ⟨rfl,bF h,au<|aj rfl<|ar (sF h r.ok r.idle h1 h2 (sG r f) λH c' l1 l2 b g h=>aF ?_)⟩
 have hm:b∈c'.ak:=by rw[g.e];exact aac _ (.head _)
 have hz:=g.ok.ak.z b hm
 have hb:=fu g.e h
 refine ag<|aY<|aW yz rfl rfl<|aj rfl ⟨rfl,dj hb,ar (yR hb (mN hz g.ok.dk.z.2)<|aF ?_)⟩
 refine ag<|bh<|aW sb rfl rfl<|aj rfl ⟨by rw[<-g.ca],bF h,au<|aj rfl<|ar (sz h g.ok g.e g.held λH h=>?_)⟩
 unfold bQ
 refine ag<|cQ<|aj rfl ?_
 have sw:=g.ok.swap (b':=b.hold 0) g.e rfl rfl hz (g.ok.ak.p b hm) (λhp _=>?_)
 ·obtain⟨r2,e2⟩:=sJ r g (b':=b.hold 0) rfl rfl sw.roll λk _=>rfl
  show Q (.bytes b.x) H
  rw[g.sH]
  refine q H _ r2 (λk=>?_) g.ca g.most h
  obtain⟨v1,v2⟩:=e2 k
  rw[v1,v2]
  by_cases hk:k=x
  ·rw[if_pos hk,if_pos hk,hk];exact⟨g.sH,g.sI⟩
  ·rw[if_neg hk,if_neg hk];exact⟨rfl,rfl⟩
 ·have hp:b.p=0:=hp
  show b.x=aI s b.n
  rw[g.sH,g.num]
  unfold view
  cases e:c.ak.find? (λb=>b.n==x)with
  |none=>rfl
  |some b0=>
   have h0:=abv e
   have hn:b0.n=x:=by simpa using adx e
   have:=g.pins
   rw[e]at this
   have:=r.ok.clean b0 h0 (this.symm.trans hp) (r.idle b0 h0)
   rw[hn]at this;exact this
theorem bC.wrote{t:Nat}{o:By}(ok:bC s c)(e:c.ak=l1++b::l2)(ho:(o.length:Int)=s.S)(hx:b.x=o):bC (s.wrote t b.n o) c where
 dk:=by
  have hm:b∈c.ak:=by rw[e];exact aac _ (.head _)
  exact ok.dk.wrote (ok.ak.r b hm).1 (ok.ak.r b hm).2 ho
 ak:=⟨ok.ak.nd,ok.ak.r,ok.ak.z,ok.ak.p⟩
 clean y hy hp hh:=by
  rw[mJ]
  by_cases hn:y.n=b.n
  ·rw[if_pos hn]
   have e1:=kR ok.ak.nd hy
   have hm:b∈c.ak:=by rw[e];exact aac _ (.head _)
   have e2:=kR ok.ak.nd hm
   rw[hn,e2]at e1
   obtain rfl:=aae.inj e1;exact hx
  ·rw[if_neg hn];exact ok.clean y hy hp hh
 bn:=ok.bn
 key:=ok.key
 len:=ok.len
 most:=ok.most
 size:=ok.size
end
section
variable {s:Dk} {c c':Ch} {F:List Cl} {H:Hp} {n:Nat} {Q:Qh} {X:Xp} {l1 l2:List Bf} {b:Bf}
noncomputable def Bf.data (b:Bf) (o:By):Bf:={b with x:=o}
theorem bC.w1(ok:bC s c):bC s c.w1:=⟨ok.dk,ok.ak,ok.clean,ok.bn,ok.key,ok.len,ok.most,ok.size⟩
theorem y9(h:Holds H (DC s c F))(r:Rest s c)(f:fL c){x:Int}(h1:0<=x)(h2:x<s.B){o:By}(ho:(o.length:Int)=s.S)(hu:s.un.length<1000)(hw:s.fq->gn s.w=true)(y:s.fq->∀ H',Holds H' (av s.eJ++F)->X 95 H')
  (q:¬ s.fq->∀ H' t c2,Rest (s.wrote t x o) c2->(∀ k,view (s.wrote t x o) c2 k=(if k=x then o else view s c k)∧bS c2 k=bS c k)->c2.ca=c.ca->c2.most=c.most->Holds H' (DC (s.wrote t x o) c2 F)->Q .none H'):
  Cq (Rn 4 n (.ah 411) [.ref c.ca,.int x,.bytes o] H) Q X:=by
 rw[LG]
 refine Cq.fin<|ag<|aY<|aW sa rfl rfl<|aj rfl ⟨rfl,bF h,au<|aj rfl<|ar (sF h r.ok r.idle h1 h2 (sG r f) λH c' l1 l2 b g h=>aF ?_)⟩
 have hx:=g.num
 subst hx
 have hm:b∈c'.ak:=by rw[g.e];exact aac _ (.head _)
 have hz:=g.ok.ak.z b hm
 have hb:=fu g.e h
 refine ag<|bh<|aW yA rfl rfl<|aj rfl ⟨rfl,dj hb,au<|aj rfl<|ar (yS hb (mN hz g.ok.dk.z.2) (agy.inj (ho.trans hz.symm)) λH h=>?_)⟩
 have h:Holds H (DC s (c'.with (l1++b.data o::l2)) F):=kP (b:=b) (b':=b.data o) rfl h
 have hb1:(b.data o).h=1:=g.held
 have ok1:bC s (c'.with (l1++b.data o::l2)):=g.ok.swap g.e rfl rfl ho (g.ok.ak.p b hm) λ_ z=>by rw[hb1]at z;contradiction
 refine ag<|bh<|aW Oj rfl rfl<|aj rfl ⟨by rw[<-g.ca];rfl,bF h,au<|aj rfl<|ar (OR (b:=b.data o) (l1:=l1) (l2:=l2) h ok1 rfl (by rw[hb1];decide) hu hw y λen H t h=>?_)⟩
 have ok2:bC (s.wrote t b.n o) (c'.with (l1++b.data o::l2)).w1:=(ok1.wrote (b:=b.data o) rfl ho rfl).w1
 refine ag<|bh<|aW sb rfl rfl<|aj rfl ⟨by rw[<-g.ca];rfl,bF h,au<|aj rfl<|ar (sz (b:=b.data o) (l1:=l1) (l2:=l2) h ok2 rfl hb1 λH h=>?_)⟩
 have g2:Got s c c'.w1 l1 l2 b b.n:=⟨g.e,g.num,g.held,g.dat,g.pins,g.ok.w1,g.old,g.keep,g.ca,g.most⟩
 have sw:=ok2.swap (b':=(b.data o).hold 0) rfl rfl rfl ho (g.ok.ak.p b hm) (λ_ _=>by rw[mJ];exact(if_pos rfl).symm)
 obtain⟨r2,e2⟩:=sJ r g2 (b':=(b.data o).hold 0) rfl rfl sw.roll λk hk=>by rw[mJ,if_neg hk]
 refine q en H t _ r2 (λk=>?_) g.ca g.most h
 obtain⟨v1,v2⟩:=e2 k
 rw[v1,v2]
 by_cases hk:k=b.n
 ·rw[if_pos hk,if_pos hk,if_pos hk,hk];exact⟨rfl,g.sI⟩
 ·rw[if_neg hk,if_neg hk,if_neg hk];exact⟨rfl,rfl⟩
end
abbrev O4{α:Type}(lo:Lo)(Q:α->Sp):α->Sp:=λa s=>Q a ⟨lo,s.H⟩
abbrev O5{α:Type}(ifs:List (M Bool))(Q:Bool->Sp):α->Sp:=λ_ s=>Wq (allM .And ifs s) Q nx
abbrev O6{α:Type}(elt:M V)(Q:V->Sp):α->Sp:=λ_ s=>Wq (elt s) Q nx
abbrev O7(v:V)(H:Hp)(L:Lo->Prop):V->Sp:=λy s=>aO (y=v) (s.H=H) (L s.lo)
abbrev O8(J:Option V->Sp):V->Sp:=λy s=>J (some y) s
abbrev O9(lo:Lo)(c:List Cl)(n:Nat):V->Sp:=λv s=>aO (s.lo=lo) (Holds s.H c) (iter v s=.ok ((aaw n).map λ(k:Nat)=>V.int k,none) s)
abbrev O'(g:Nat->V)(n:Nat)(I:Nat->Sp):V->Sp:=λv s=>iter v s=.ok ((aaw n).map g,none) s∧I 0 s
abbrev Pa(b:By)(I:Nat->Sp):V->Sp:=λv s=>v=.bytes b∧I 0 s
abbrev Pb(lo lo':Lo)(items:List V)(o:Option (Nat×List V))(I:List V->List V->Lo->List Cl->Prop):V->Sp:=λv s=>s.lo=lo∧∃ c,aO (Holds s.H c) (iter v s=.ok (items,o) s) (I items [] lo' c)
section
variable {X:Xp}
theorem Pc{Q:Option Unit->Sp}{lo lo':Lo}{H:Hp}{m:M (Option Unit)}(h:Wq (m ⟨lo',H⟩) (O4 lo Q) nx):Wq (Lite.inBlock lo' m ⟨lo,H⟩) Q X:=by
 unfold Lite.inBlock
 cases e:m ⟨lo',H⟩ with
 |ok a s=>rw[e]at h;exact h
 |exc c s=>rw[e]at h;exact h.elim
 |no=>rw[e]at h;exact h.elim
def oR(elt:M V)(J:Option V->Sp):Bool->Sp
 |true,s=>Wq (elt s) (O8 J) nx
 |false,s=>J none s
def Pd(t:Nat)(I:List V->Lo->List Cl->Prop)(ys:List V)(r:Option V)(s:St):Prop:=∃ c,Holds s.H ((t,.list ys)::c)∧I (ys++r.toList) s.lo c
theorem mP{Q:V->Sp}{mk:Lo->Option Lo}{it:M V}{tgt:V->M Unit}{ifs:List (M Bool)}{elt:M V}{lo lo':Lo}{H:Hp}{items:List V}{o:Option (Nat×List V)}(I:List V->List V->Lo->List Cl->Prop)
  (hm:mk lo=some lo') (hl:items.length<=1000) (hi:Wq (it ⟨lo,H⟩) (Pb lo lo' items o I) X)
  (hs:∀ vs ys lo1 c st,I vs ys lo1 c->Holds st.H c->bI o st=.ok () st)
  (step:∀ v vs ys lo1 c H1 t,I (v::vs) ys lo1 c->Holds H1 ((t,.list ys)::c)->Wq (tgt v ⟨lo1,H1⟩) (O5 ifs (oR elt (Pd t (I vs) ys))) nx)
  (q:∀ ys lo1 c H' t,I [] ys lo1 c->Holds H' ((t,.list ys)::c)->Q (.ref t) ⟨lo,H'⟩):Wq (Lite.gu P0 mk it tgt ifs elt ⟨lo,H⟩) Q X:=by
 unfold Lite.gu
 refine af (hi.mono (λv s p=>?_) λ_ _ p=>p)
 obtain⟨rfl,c,h,e,hI⟩:=p
 obtain⟨lo,H⟩:=s
 refine af ?_
 rw[e]
 refine af ?_
 refine af<|d5 h λH t h=>?_
 refine af<|bJ hm<|af<|Pc ?_
 refine oK (λvs st=>bT λys c=>(aO (ys.length+vs.length<=1000) (Holds st.H ((t,.list ys)::c)) (I vs ys st.lo c))) (λvs st J=>?_) (λv vs st J=>?_) (λst J=>?_) items ⟨lo',H⟩ ⟨[],c,(agc _).symm▸hl,h,hI⟩
 ·obtain⟨ys,c,_,h,hI⟩:=J
  exact hs _ _ _ _ _ hI h.bg
 ·obtain⟨ys,c,hn,h,hI⟩:=J
  obtain⟨lo1,H1⟩:=st
  have hn:ys.length+(vs.length+1)<=1000:=hn
  refine af ((step v vs ys lo1 c H1 t hI h).mono (λ_ s p=>af (p.mono (λok s p=>?_) λ_ _ p=>p)) λ_ _ p=>p)
  cases ok with
  |false=>
   obtain⟨c,h,hI⟩:=p
   rw[Option.toList,aar]at hI
   exact⟨ys,c,by omega,h,hI⟩
  |true=>
   refine af (p.mono (λy s p=>?_) λ_ _ p=>p)
   obtain⟨c,h,hI⟩:=p
   obtain⟨lo2,H2⟩:=s
   have e2:bi P0 "list.append" [.ref t,y] ⟨lo2,H2⟩=(Lite.bV t>>=λxs=>Lite.guard (decide (xs.length<lim))>>=λ_=>Lite.put t (.list (xs++[y]))>>=λ_=>aak V.none) ⟨lo2,H2⟩:=by kernel_rfl
   refine af ?_
   rw[e2]
   have hlen:ys.length<lim:=by unfold lim;omega
   refine af<|il h.hd<|af<|bp (decide_eq_true hlen)<|af<|mA ?_
   exact⟨ys++[y],c,by rw[aag];show ys.length+1+vs.length<=1000;omega,h.dt _,hI⟩
 ·obtain⟨ys,c,_,h,hI⟩:=J
  exact q _ _ _ _ _ hI h
theorem Pe{Q:V->Sp}{mk:Lo->Option Lo}{it:M V}{tgt:V->M Unit}{elt:M V}{lo lo':Lo}{H:Hp}{c:List Cl}{n:Nat}(g:Nat->V)(L:Lo->Prop)(hm:mk lo=some lo')(hL:L lo')(hn:n<=1000)
  (hi:Wq (it ⟨lo,H⟩) (O9 lo c n) X)
  (step:∀ k lo1 H1,k<n->L lo1->Holds H1 c->Wq (tgt (.int (k:Int)) ⟨lo1,H1⟩) (O6 elt (O7 (g k) H1 L)) nx) (q:∀ H' t,Holds H' ((t,.list ((aaw n).map g))::c)->Q (.ref t) ⟨lo,H'⟩):Wq (Lite.gu P0 mk it tgt [] elt ⟨lo,H⟩) Q X:=by
 refine mP (items:=(aaw n).map λ(k:Nat)=>V.int k) (o:=none) (λvs ys lo1 c1=>aO (c1=c) (L lo1) (∃ k,(aO (k<=n) (vs=((aaw n).drop k).map λ(k:Nat)=>V.int k) (ys=((aaw n).take k).map g)))) hm (by rw[aad,aap];exact hn)
  (hi.mono (λv s p=>⟨p.1,c,p.2,p.3,rfl,hL,0,abh _,rfl,rfl⟩) λ_ _ p=>p) (λ_ _ _ _ _ _ _=>rfl) (λv vs ys lo1 c1 H1 t J h=>?_) λys lo1 c1 H' t J h=>?_
 ·obtain⟨rfl,hL,k,hk,ev,ey⟩:=J
  have hkn:k<n:=by
   rcases aep k n with q |q
   ·exact q
   ·rw[aby (by rw[aap];exact q)]at ev;contradiction
  rw[<-abx (h:=by rw[aap];exact hkn),aaH,abl]at ev
  obtain⟨rfl,rfl⟩:=abU.inj ev
  refine(step k lo1 H1 hkn hL h.bg).mono (λ_ s p=>?_) λ_ _ p=>p
  obtain⟨lo2,H2⟩:=s
  refine(show Wq (allM .And [] ⟨lo2,H2⟩) _ nx from ?_)
  refine(p.mono (λy s p=>?_) λ_ _ p=>p)
  obtain⟨rfl,e,hL⟩:=p
  refine⟨c1,e▸h,rfl,hL,k+1,hkn,rfl,?_⟩
  rw[ait,aaq,ey,aaz (by rw[aap];exact hkn),abl]
  rfl
 ·obtain⟨rfl,hL,k,hk,ev,rfl⟩:=J
  have hkn:n<=k:=by
   have:=abr.mp ev.symm
   have:=abW.mp this
   rwa [aap]at this
  rw[aca (by rw[aap];exact hkn)]at h
  exact q _ _ h
/-! loops over what does not turn under them -/
theorem za{turn:V->M (Option V)}{Q:Fl->Sp}{g:Nat->V}{n:Nat}(I:Nat->Sp){s:St}(h:I 0 s)
  (step:∀ k s,k<n->I k s->Wq (turn (g k) s) (su (I (k+1)) λo s=>Wq (eD o s) Q X) X) (fin:∀ s,I n s->Q .next s):Wq ((Lite.loop (bI none) turn ((aaw n).map g)>>=eD) s) Q X:=by
 refine af<|oK (λvs st=>∃ k,(aO (k<=n) (vs=((aaw n).drop k).map g) (I k st))) (λvs st h=>rfl) (λv vs st h=>?_) (λst h=>?_) _ s ⟨0,abh _,rfl,h⟩
 ·obtain⟨k,hk,ev,h⟩:=h
  have hkn:k<n:=by
   rcases aep k n with q |q
   ·exact q
   ·rw[aby (by rw[aap];exact q)]at ev;contradiction
  rw[<-abx (h:=by rw[aap];exact hkn),aaH,abl]at ev
  obtain⟨rfl,rfl⟩:=abU.inj ev
  refine(step k st hkn h).mono (λo s q=>?_) λ_ _ q=>q
  cases o with
  |none=>exact⟨k+1,hkn,rfl,q⟩
  |some r=>exact q
 ·obtain⟨k,hk,ev,h⟩:=h
  have hkn:n<=k:=by
   have:=abr.mp ev.symm
   have:=abW.mp this
   rwa [aap]at this
  have:k=n:=agw hk hkn
  subst this
  exact fin st h
theorem jR{it:M V}{t:V->M Unit}{body:Lm}{Q:Fl->Sp}{lo:Lo}{H:Hp}{n:Nat}{g:Nat->V}(I:Nat->Sp)
  (hi:Wq (it ⟨lo,H⟩) (O' g n I) X)
  (step:∀ k s,k<n->I k s->Wq (t (g k) s) (jI body (i7 (I (k+1)) Q) X) X) (fin:∀ s,I n s->Q .next s):Wq (Lite.dH it t body ⟨lo,H⟩) Q X:=by
 unfold Lite.dH
 refine af (hi.mono (λv s q=>?_) λ_ _ q=>q)
 obtain⟨ei,h⟩:=q
 refine af ?_
 rw[ei]
 exact za I h (λk s hk h=>oL (step k s hk h)) fin
theorem Pf{it:M V}{t:V->M Unit}{body:Lm}{Q:Fl->Sp}{lo:Lo}{H:Hp}{b:By}(I:Nat->Sp)(hl:b.length<=lim)
  (hi:Wq (it ⟨lo,H⟩) (Pa b I) X)
  (step:∀ k s,k<b.length->I k s->Wq (t (.int ((b.reverse.getD k 0).toNat:Int)) s) (jI body (i7 (I (k+1)) Q) X) X) (fin:∀ s,I b.length s->Q .next s):Wq (Lite.forR it t body ⟨lo,H⟩) Q X:=by
 unfold Lite.forR
 refine af (hi.mono (λv s q=>?_) λ_ _ q=>q)
 obtain⟨rfl,h⟩:=q
 refine af<|bJ rfl<|af<|bp (decide_eq_true hl) ?_
 have e:(b.reverse.map λx=>V.int (x.toNat:Int))=(aaw b.length).map λk=>V.int ((b.reverse.getD k 0).toNat:Int):=by
  refine afZ (by simp) λk h1 h2=>?_
  have hk:k<b.reverse.length:=by simpa using h1
  rw[adO,adO,abl,aat,aaz hk];rfl
 rw[e]
 exact za I h (λk s hk h=>oL (step k s hk h)) fin
end
section
variable {X:Xp} {lo:Lo} {H:Hp} {Q:V->Sp} {a b:Int}
theorem cK(q:Q (.int (a+b)) ⟨lo,H⟩):Wq (binop .Add (.int a) (.int b) ⟨lo,H⟩) Q X:=q
theorem jS(q:Q (.int (a-b)) ⟨lo,H⟩):Wq (binop .Sub (.int a) (.int b) ⟨lo,H⟩) Q X:=q
theorem iy(h:a.natAbs<2 ^ 64∨b.natAbs<2 ^ 64)(q:Q (.int (a*b)) ⟨lo,H⟩):Wq (binop .Mult (.int a) (.int b) ⟨lo,H⟩) Q X:=by
 refine af<|bJ rfl<|af<|bp ?_ q
 exact abq.mpr (h.imp decide_eq_true decide_eq_true)
end
/-! the journal -/
structure Jn where
 jo:Nat
 nums:Nat
 fG:Nat
 start:Int
 size:Int
 places:Int
 most:Int
 each:Int
 calls:Int
 sL:Int
 ns:List Int
 nt:List (Int×V)
noncomputable def Pg (ca:Nat) (j:Jn):List (Nat×V):=[(10,.ref ca),(11,.int j.start),(12,.int j.size),(13,.int j.places),(14,.int j.most),(16,.int j.each),(18,.ref j.nums),(19,.ref j.fG),(20,.int j.calls),(21,.int j.sL)]
def ja(ca:Nat)(j:Jn):O:=.inst 218 (Pg ca j)
def aN(ca:Nat)(j:Jn):List Cl:=[(j.jo,ja ca j),(j.nums,.list (j.ns.map V.int)),(j.fG,.dict j.nt)]
section
variable {ca:Nat} {j:Jn} {F:List Cl} {H:Hp} {n:Nat} {Q:Qh} {X:Xp}
theorem aU(h:Holds H (aN ca j++F)):H[j.jo]? =some (ja ca j):=h.on _ (.head _)
theorem gC(h:Holds H (aN ca j++F)):H[j.nums]? =some (.list (j.ns.map V.int)):=h.on _ (.tail _ (.head _))
theorem zb(h:Holds H (aN ca j++F)):H[j.fG]? =some (.dict j.nt):=h.on _ (.tail _ (.tail _ (.head _)))
noncomputable def Jn.own (j:Jn) (x:Int):Bool:=decide (j.start<=x)&&decide (x<j.start+j.size)
theorem zc(h:Holds H (aN ca j++F)){x:Int}(q:Q (.bool (j.own x)) H):Cq (Rn 1 n (.ah 138) [.ref j.jo,.int x] H) Q X:=by
 rw[Ji]
 unfold Jn.own at q
 refine Cq.fin<|ag<|cQ<|af<|aw rfl (aU h) (aS (by decide)) rfl rfl<|af<|mB<|aj rfl<|jM (r:=decide (j.start<=x)) rfl ?_
 cases hd:decide (j.start<=x)with
 |false=>rw[hd]at q;exact q
 |true=>
  rw[hd]at q
  exact bu<|aZ<|aw rfl (aU h) (aS (by decide)) rfl rfl<|aw rfl (aU h) (aS (by decide)) rfl rfl<|cK<|fp (r:=decide (x<j.start+j.size)) rfl q
end
section
variable {s:Dk} {c:Ch} {j:Jn} {F:List Cl} {H:Hp} {n:Nat} {Q:Qh} {X:Xp} {l1 l2:List Bf} {b:Bf}
theorem cL{Y:List Cl}(h:Holds H (Y++DC s c F)):Holds H (DC s c (Y++F)):=by
 have h1:Holds H (d7 s c++(Y++(av s++F))):=h.front
 exact h1.perm (adA _ sD)
theorem eM{Y:List Cl}(h:Holds H (DC s c (Y++F))):Holds H (Y++DC s c F):=by
 have h1:Holds H (d7 s c++(Y++(av s++F))):=h.perm (adA _ sD)
 exact h1.front
end
section
variable {X:Xp} {C:Ct} {lo:Lo} {H:Hp} {Q:V->Sp}
theorem zd{a b:Int}(h:0<=b)(q:Q (.int (a.fdiv (2 ^ b.toNat))) ⟨lo,H⟩):Wq (binop .RShift (.int a) (.int b) ⟨lo,H⟩) Q X:=by
 exact af<|bJ rfl<|af<|bp (decide_eq_true h) q
theorem ze{a b:Int}(h:0<=b∧b<=64)(h2:a.natAbs<2 ^ 64)(q:Q (.int (a*2 ^ b.toNat)) ⟨lo,H⟩):Wq (binop .LShift (.int a) (.int b) ⟨lo,H⟩) Q X:=by
 refine af<|bJ rfl<|af<|bp ?_ q
 rw[decide_eq_true h.1,decide_eq_true h.2,decide_eq_true h2];rfl
theorem Ph{a b:Int}(h:0<=b∧b<=90)(h2:1<a∧a<=256)(q:Q (.int (a ^ b.toNat)) ⟨lo,H⟩):Wq (binop .Pow (.int a) (.int b) ⟨lo,H⟩) Q X:=by
 refine af<|bJ rfl<|af<|bp ?_ q
 rw[decide_eq_true h.1,decide_eq_true h.2,decide_eq_true h2.1,decide_eq_true h2.2];rfl
theorem zf{a b:Int}(q:Q (.int (acx a b)) ⟨lo,H⟩):Wq (binop .BitAnd (.int a) (.int b) ⟨lo,H⟩) Q X:=q
theorem Pj{a b:Int}(q:Q (.int (afk a b)) ⟨lo,H⟩):Wq (binop .BitOr (.int a) (.int b) ⟨lo,H⟩) Q X:=q
theorem Pk{c:List Cl}(hc:Holds H c)(q:∀ H' t,Holds H' ((t,.bG [])::c)->Q (.ref t) ⟨lo,H'⟩):Wq (aP P0 C true (.ty "bytearray") [] ⟨lo,H⟩) Q X:=by
 have e2:aP P0 C true (.ty "bytearray") [] ⟨lo,H⟩=Lite.alloc (.bG []) ⟨lo,H⟩:=by kernel_rfl
 rw[e2];exact d5 hc q
theorem zg{c:List Cl}{a:Nat}{xs:List V}(hc:Holds H c)(e:H[a]? =some (.list xs))(hl:xs.length<=lim)(q:∀ H' t,Holds H' ((t,.list xs)::c)->Q (.ref t) ⟨lo,H'⟩):Wq (aP P0 C true (.ty "list") [.ref a] ⟨lo,H⟩) Q X:=by
 have e2:aP P0 C true (.ty "list") [.ref a] ⟨lo,H⟩=(Lite.bV a>>=λxs=>Lite.guard (decide (xs.length<=lim))>>=λ_=>Lite.alloc (.list xs)) ⟨lo,H⟩:=by kernel_rfl
 rw[e2];exact af<|il e<|af<|bp (decide_eq_true hl)<|d5 hc q
theorem zh{c:List Cl}{a:Nat}{es:List (Int×V)}(hc:Holds H c)(e:H[a]? =some (.dict es))(hl:es.length<=lim)(q:∀ H' t,Holds H' ((t,.dict es)::c)->Q (.ref t) ⟨lo,H'⟩):Wq (aP P0 C true (.ty "dict") [.ref a] ⟨lo,H⟩) Q X:=by
 have e2:aP P0 C true (.ty "dict") [.ref a] ⟨lo,H⟩=(Lite.dictAt a>>=λxs=>Lite.guard (decide (xs.length<=lim))>>=λ_=>Lite.alloc (.dict xs)) ⟨lo,H⟩:=by kernel_rfl
 rw[e2];exact af<|rY e<|af<|bp (decide_eq_true hl)<|d5 hc q
theorem oU{c:List Cl}{a b:Nat}{xs ys:List V}(hc:Holds H c)(e:H[a]? =some (.list xs))(e':H[b]? =some (.list ys))(hl:xs.length+ys.length<=lim)(q:∀ H' t,Holds H' ((t,.list (xs++ys))::c)->Q (.ref t) ⟨lo,H'⟩):Wq (binop .Add (.ref a) (.ref b) ⟨lo,H⟩) Q X:=by
 exact af<|bp rfl<|af<|il e<|af<|il e'<|af<|bp (decide_eq_true hl)<|d5 hc q
theorem Pm{c:List Cl}{a:Nat}{n:Int}{x:V}(hc:Holds H c)(e:H[a]? =some (.list [x]))(hn:0<=n∧n<=lim)(q:∀ H' t,Holds H' ((t,.list (aaT n.toNat x))::c)->Q (.ref t) ⟨lo,H'⟩):Wq (binop .Mult (.ref a) (.int n) ⟨lo,H⟩) Q X:=by
 refine af<|bp rfl<|af<|il e<|af<|bp ?_<|af<|aq<|d5 hc q
 rw[decide_eq_true hn.1,decide_eq_true hn.2];rfl
theorem Pn{a b:By}(hl:a.length+b.length<=lim)(q:Q (.bytes (a++b)) ⟨lo,H⟩):Wq (binop .Add (.bytes a) (.bytes b) ⟨lo,H⟩) Q X:=by
 exact af<|bp rfl<|af<|bJ rfl<|af<|bp (decide_eq_true hl) q
theorem iz{c:List Cl}{b:Int}(hc:Holds H c)(q:∀ H' t,Holds H' ((t,.range 0 b 1)::c)->Q (.ref t) ⟨lo,H'⟩):Wq (aP P0 C true (.ty "range") [.int b] ⟨lo,H⟩) Q X:=by
 have e2:aP P0 C true (.ty "range") [.int b] ⟨lo,H⟩=Lite.alloc (.range 0 b 1) ⟨lo,H⟩:=by kernel_rfl
 rw[e2]
 exact d5 hc q
theorem Po{c:List Cl}{a b d:Int}(hc:Holds H c)(ok:eo a b d=true)(q:∀ H' t,Holds H' ((t,.range a b d)::c)->Q (.ref t) ⟨lo,H'⟩):Wq (aP P0 C true (.ty "range") [.int a,.int b,.int d] ⟨lo,H⟩) Q X:=by
 have e2:aP P0 C true (.ty "range") [.int a,.int b,.int d] ⟨lo,H⟩=(Lite.guard (eo a b d)>>=λ_=>Lite.alloc (.range a b d)) ⟨lo,H⟩:=by kernel_rfl
 rw[e2]
 exact af<|bp ok<|d5 hc q
noncomputable def sM (n:Nat):List V:=(aaw n).map λ(k:Nat)=>V.int k
theorem Pq(n:Nat):(rangeInts 0 n 1).map V.int=sM n:=by
 unfold rangeInts sM
 rw[abP]
 have:(if (0:Int)<n then ((n:Int) -0-1)/1+1 else 0).toNat=n:=by
  rw[ahr,akj,aiu]
  split
  ·rfl
  ·rename_i h;exact(Nat.eq_zero_of_not_pos λp=>h (acG.mpr p)).symm
 rw[this]
 refine abJ λk _=>?_
 show V.int (0+(k:Int)*1)=V.int k
 rw[aeV,Int.mul_one]
theorem iA{a:Nat}{n:Nat}{st:St}(h:st.H[a]? =some (.range 0 n 1))(hb:n<=1000):iter (.ref a) st=.ok (sM n,none) st:=by
 show(Lite.obj a>>=km a) st=_
 rw[cb (mK h)]
 show(Lite.guard (eo 0 n 1)>>=λ_=>aak ((rangeInts 0 n 1).map V.int,none)) st=_
 have:eo 0 n 1=true:=by
  unfold eo
  simp only[abD,decide_eq_true_eq]
  lia
 rw[this,Pq]
 rfl
theorem zi{a:Nat}{xs:List V}{b:By}(e:H[a]? =some (.list xs))(hl:xs.length<=lim)(hb:bytesOf xs=some b)(q:Q (.bytes b) ⟨lo,H⟩):Wq (aP P0 C true (.ty "bytes") [.ref a] ⟨lo,H⟩) Q X:=by
 have e2:aP P0 C true (.ty "bytes") [.ref a] ⟨lo,H⟩=(Lite.obj a>>=pL) ⟨lo,H⟩:=by kernel_rfl
 rw[e2]
 exact af<|gx e<|af<|bp (decide_eq_true hl)<|af<|bJ hb q
theorem sN:∀ {l:List Int},(∀ i∈l,0<=i∧i<256)->bytesOf (l.map V.int)=some (l.map λi=>i.toNat.toUInt8)
 | [],_=>rfl
 |i::l,h=>by
  have h1:=sN (l:=l) λk hk=>h k (.tail _ hk)
  unfold bytesOf at h1 ⊢
  simp only[aaH,afl]
  have:pJ (.int i)=some i.toNat.toUInt8:=if_pos (h i (.head _))
  simp only[this,h1]
  rfl
/-! slices -/
theorem zj{α:Type}(l:List α)(i j:Nat):cM l (some (i:Int)) (some (j:Int))=(l.drop i).take (j-i):=by
 unfold cM aeb aeR
 dsimp only
 rw[if_neg (abI.mpr (aaL i)),if_neg (abI.mpr (aaL j)),abk,abk]
 by_cases h:i<=l.length
 ·rw[acp h]
  by_cases h2:j<=l.length
  ·rw[acp h2]
  ·rw[adQ (acF h2),aca (by rw[acj];exact aaZ _),aca (by rw[acj];exact Nat.sub_le_sub_right (acF h2) i)]
 ·rw[aby (by rw[adQ (acF h)];exact aaZ _),aby (acF h)];simp
theorem zk{α:Type}(l:List α)(j:Nat):cM l none (some (j:Int))=l.take j:=by
 unfold cM aeb aeR
 dsimp only
 rw[if_neg (abI.mpr (aaL j)),abk,List.drop_zero,Nat.sub_zero]
 by_cases h2:j<=l.length
 ·rw[acp h2]
 ·rw[adQ (acF h2),aca (aaZ _),aca (acF h2)]
theorem jT{i:Nat}(h:i<=1000):small (some (i:Int))=true:=by
 unfold small
 rw[Option.all]
 simp only[abD,decide_eq_true_eq]
 lia
theorem sO:small none=true:=by unfold small;rfl
theorem Pt{b:By}{i j:Option Int}(hi:small i=true)(hj:small j=true)(hl:b.length<=lim)(q:Q (.bytes (cM b i j)) ⟨lo,H⟩):Wq (fA (.bytes b) i j ⟨lo,H⟩) Q X:=by
 refine af<|bp ?_<|af<|bp (decide_eq_true hl) q
 rw[hi,hj];rfl
theorem sP{a:Nat}{xs:List V}{i j:Option Int}{c:List Cl}(hi:small i=true)(hj:small j=true)(e:H[a]? =some (.list xs))(hl:xs.length<=lim)(hc:Holds H c)(q:∀ H' t,Holds H' ((t,.list (cM xs i j))::c)->Q (.ref t) ⟨lo,H'⟩):Wq (fA (.ref a) i j ⟨lo,H⟩) Q X:=by
 refine af<|bp ?_<|af<|il e<|af<|bp (decide_eq_true hl)<|d5 hc q
 rw[hi,hj];rfl
theorem Pu{xs:List Int}{i j:Option Int}{c:List Cl}(hi:small i=true)(hj:small j=true)(hl:xs.length<=lim)(hc:Holds H c)(q:∀ H' t,Holds H' ((t,.list ((cM xs i j).map V.int))::c)->Q (.ref t) ⟨lo,H'⟩):Wq (fA (.ints xs) i j ⟨lo,H⟩) Q X:=by
 refine af<|bp ?_<|af<|bp (decide_eq_true hl)<|d5 hc q
 rw[hi,hj];rfl
theorem zl(xs:List Int):intsOf (xs.map V.int)=some xs:=by
 induction xs with
 |nil=>rfl
 |cons x r ih=>unfold intsOf at ih ⊢;rw[aaH,afl,ih];rfl
theorem sQ{Q:Bool->Sp}{i:Int}{d:Nat}{xs:List Int}{r:Bool}(e:H[d]? =some (.list (xs.map V.int)))(er:xs.contains i=r)(q:Q r ⟨lo,H⟩):Wq (cF .In (.int i) (.ref d) ⟨lo,H⟩) Q X:=by
 refine af<|bJ rfl<|af<|bJ rfl<|af<|gx e<|af<|bJ (zl xs) ?_
 subst er
 exact q
end
section
variable {X:Xp} {C:Ct} {lo:Lo} {H:Hp}
theorem Pw{a:Int}(h:0<=a):0<=acx a 255∧acx a 255<256:=by
 have:acx a 255=((a.toNat&&& 255:Nat):Int):=by
  unfold acx
  rw[decide_eq_true h]
  rfl
 rw[this]
 exact⟨aaL _,acG.mpr (aiD Nat.and_le_right)⟩
abbrev Px(a:Nat)(fb:By)(Q:V->Sp):V->Sp:=λx s=>∃ b,cB (x=.bytes b) (s.H[a]? =some (.bG fb)) (fb.length+b.length<=lim) (Q .none ⟨s.lo,s.H.set a (.bG (fb++b))⟩)
abbrev Py(t:V->M Unit)(body:Lm)(Q:Fl->Sp)(X:Xp):V->Sp:=λv s=>∃ (a:Nat) (xs:List V) (I:List V->Sp),lq (v=.ref a) (acT xs.length 1000=true) (I xs s) (∀ vs s,I vs s->s.H[a]? =some (.list xs)) (∀ v vs s,I (v::vs) s->Wq (t v s) (jI body (i7 (I vs) Q) X) X) (∀ s,I [] s->Q .next s)
theorem Pz{Q:V->Sp}{a:Nat}{fb gb:By}{o v:M V}
  (h:Wq (o ⟨lo,H⟩) (mH a (.bG gb) (sg v (Px a fb Q) X)) X):Wq (Lite.aH P0 C o "extend" [v] ⟨lo,H⟩) Q X:=by
 refine kN (h.mono (λov s q=>?_) λ_ _ q=>q)
 obtain⟨rfl,e,q⟩:=q
 refine oG (f:=.bi "bytearray.extend") e (by kernel_rfl)<|au (q.mono (λx s'' q=>ar ?_) λ_ _ q=>q)
 obtain⟨b,rfl,e',hl,q⟩:=q
 have e2:aP P0 C true (.bi "bytearray.extend") [.ref a,.bytes b] s''=(Lite.iJ a>>=λxs=>Lite.guard (decide (xs.length+b.length<=lim))>>=λ_=>Lite.put a (.bG (xs++b))>>=λ_=>aak V.none) s'':=by kernel_rfl
 show Wq (aP P0 C true (.bi "bytearray.extend") [.ref a,.bytes b] s'') Q X
 rw[e2]
 exact af<|yk e'<|af<|bp (decide_eq_true hl)<|af<|mA q
theorem zm{it:M V}{t:V->M Unit}{body:Lm}{Q:Fl->Sp}
  (hi:Wq (it ⟨lo,H⟩) (Py t body Q X) X):Wq (Lite.dH it t body ⟨lo,H⟩) Q X:=by
 refine af (hi.mono (λv s q=>?_) λ_ _ q=>q)
 obtain⟨a,xs,I,rfl,hl,h,hI,step,fin⟩:=q
 obtain⟨lo,H⟩:=s
 have:=i8 (it:=aak (V.ref a)) (lo:=lo) (H:=H) I hl (aq ⟨rfl,hI xs _ h,h⟩) hI step fin
 exact this
noncomputable def oc (k:Int) (i:Nat):Int:=acx (k.fdiv (2 ^ (8*(i:Int)).toNat)) 255
def dE(k:Int):By:=((aaw 4).map (oc k)).map λi=>i.toNat.toUInt8
theorem PA(k:Int):(dE k).length=4:=rfl
theorem PB{k:Int}(h:0<=k):bytesOf (((aaw 4).map (oc k)).map V.int)=some (dE k):=sN λi hi=>by
 obtain⟨j,_,rfl⟩:=aau.mp hi
 exact Pw (aja h (acg (Int.pow_pos (by decide))))
theorem PC{Q:V->Sp}{mk:Lo->Option Lo}{c:List Cl}{cc:Nat}{k:Int}(hm:mk lo=some [none,none,some (.ref cc)])(h:Holds H c)(hc:(cc,O.cell (some (.int k)))∈c)(q:∀ H' t,Holds H' ((t,.list (((aaw 4).map (oc k)).map V.int))::c)->Q (.ref t) ⟨lo,H'⟩):
  Wq (gu P0 mk (ay P0 C (V.ty "range") [pure (V.int 4)]) (aD 1) [] (aJ .BitAnd (aJ .RShift (dM 2) (aJ .Mult (pure (V.int 8)) (ae 1))) (pure (V.int 255))) ⟨lo,H⟩) Q X:=by
 refine Pe (c:=c) (n:=4) (λi=>V.int (oc k i)) (λlo=>bT λx y=>lo=[x,y,some (.ref cc)]) hm ⟨_,_,rfl⟩ (by decide)
  (aR<|ba rfl<|iz h λH r h=>⟨rfl,h.bg,iA (n:=4) h.hd (by decide)⟩) (λi lo1 H1 hi hL h1=>?_) λH r h=>?_
 ·obtain⟨x,y,rfl⟩:=hL
  refine aF ?_
  refine aZ<|aZ<|iY rfl (h1.get hc)<|aZ<|aq<|aj rfl<|iy (.inl (by decide))<|zd (by omega)<|aq<|zf ?_
  exact⟨rfl,rfl,_,_,rfl⟩
 ·exact q H r (by rw[abP];exact h)
end
section
variable {F:List Cl} {H:Hp} {n:Nat} {Q:Qh} {X:Xp}
def ck(ns:List Int)(size:Int):By:=((ns.length:Int)::ns).flatMap dE++aaT (size-(4*(ns.length+1):Nat)).toNat 0
theorem sR(l:List Int):(l.flatMap dE).length=4*l.length:=by
 induction l with
 |nil=>rfl
 |cons x l ih=>rw[acn,aag,ih,PA,abi];omega
theorem zo{a:Nat}{ns:List Int}{size:Int}(h:Holds H F)(ha:(a,O.list (ns.map V.int))∈F)(hn:∀ k∈ns,0<=k)(hl:4*((ns.length:Int)+1)<=size)(hs:size<=1000)(q:∀ H',Holds H' F->Q (.bytes (ck ns size)) H'):
  Cq (Rn 1 n (.ah 102) [.ref a,.int size] H) Q X:=by
 have hlen:(ns.map V.int).length<=lim:=by rw[aad];unfold lim;lia
 rw[IL]
 have h:=h.new (.cell none)
 generalize H.length=cc at h
 generalize H++[O.cell none]=H at h
 refine Cq.fin<|ag<|dC<|af<|aZ<|aq<|aZ<|aR<|ba rfl<|fK (h.on _ (.tail _ ha)) hlen<|aq<|cK<|iy (.inl (by decide)) ?_
 rw[aad]
 refine bu<|aj rfl<|iZ (r:=false) (decide_eq_false (by lia)) ⟨rfl,?_⟩
 refine ag<|aY<|aR<|ar<|Pk h λH t h=>aF ?_
 refine ag<|zm<|aZ<|eU<|au<|aR<|ba rfl<|fK (h.on _ (.tail _ (.tail _ ha))) hlen<|ar ⟨rfl,h,λH t1 h=>?_⟩
 refine aR<|ba rfl<|zg h (h.on _ (.tail _ (.tail _ (.tail _ ha)))) hlen λH t2 h=>?_
 refine oU h (h.on _ (.tail _ (.head _))) (h.on _ (.head _)) (by simp only[abi,aiN,aad];unfold lim;lia) λH t3 h=>?_
 have h:Holds H ((t3,.list ([V.int (ns.map V.int).length]++ns.map V.int))::(t,.bG [])::(cc,.cell none)::F):=h.sub (.cons_cons _ (.cons _ (.cons _ (aaM _))))
 have hit:([V.int (ns.map V.int).length]++ns.map V.int)=(((ns.length:Int)::ns).map V.int):=by simp
 rw[hit]at h
 refine⟨t3,((ns.length:Int)::ns).map V.int,λvs st=>∃ (d e:List Int) (w:Option V),(cB ((ns.length:Int)::ns=d++e) (vs=e.map V.int) (st.lo=[some (.ref a),some (.int size),some (.ref t),some (.ref cc),none,none,none,none,none,none,none]) (Holds st.H ((t3,.list (((ns.length:Int)::ns).map V.int))::(t,.bG (d.flatMap dE))::(cc,.cell w)::F))),rfl,?_,⟨[],_,none,rfl,rfl,rfl,h⟩,λvs st I=>?_,λv vs st I=>?_,λst I=>?_⟩
 ·refine aaJ ?_
  simp only[aad,abi]
  lia
 ·obtain⟨d,e,w,_,_,_,h⟩:=I
  exact h.hd
 ·obtain⟨d,e,w,e1,e2,e3,h⟩:=I
  obtain⟨lo,H⟩:=st
  subst e3
  cases e with
  |nil=>contradiction
  |cons k e=>
   (injection e2;subst_vars)
   have hk:0<=k:=by
    have:k∈(ns.length:Int)::ns:=by rw[e1];simp
    cases this with
    |head=>exact aaL _
    |tail _ hm=>exact hn k hm
   refine ym rfl (h.on _ (.tail _ (.tail _ (.head _))))<|ip λQ' kq=>?_
   have h:=h.jL (.cell (some (.int k)))
   generalize H.set cc (.cell (some (.int k)))=H at h
   have hb:(d.flatMap dE).length+4<=lim:=by
    have:((ns.length:Int)::ns).length=(d++k::e).length:=by rw[e1]
    simp only[aag,abi]at this
    rw[sR]
    unfold lim;lia
   refine ag<|bh<|Pz (gb:=d.flatMap dE) (fb:=d.flatMap dE)<|aj rfl ⟨rfl,h.on _ (.tail _ (.head _)),aR<|au ?_⟩
   refine PC rfl h (.tail _ (.tail _ (.head _))) λH r h=>?_
   refine ar<|zi h.hd (by simp[lim]) (PB hk) ⟨_,rfl,h.on _ (.tail _ (.tail _ (.head _))),hb,?_⟩
   have h:=h.bg.dZ (.bG (d.flatMap dE++dE k))
   refine kq .next _ ⟨d++[k],e,some (.int k),by rw[e1];simp,rfl,rfl,?_⟩
   rw[abK,acn,age,aar]
   exact h
 ·obtain⟨d,e,w,e1,e2,e3,h⟩:=I
  obtain⟨lo,H⟩:=st
  subst e3
  have he:e=[]:=abr.mp e2.symm
  simp only[he,aar]at e1
  subst e1
  have hfl:((((ns.length:Int)::ns).flatMap dE).length)=4*(ns.length+1):=by rw[sR];rfl
  have hfb:(((ns.length:Int)::ns).flatMap dE).length<=lim:=by rw[hfl];unfold lim;lia
  refine ag<|cQ<|aZ<|aR<|ba rfl<|yP (h.on _ (.tail _ (.head _))) hfb ?_
  refine aR<|au<|aZ<|aj rfl<|aR<|ba rfl<|yQ (h.on _ (.tail _ (.head _))) hfb<|jS<|ar<|r4 ?_<|Pn ?_ ?_
  ·rw[hfl];exact⟨Int.sub_nonneg_of_le hl,abX (Int.sub_le_self _ (aaL _)) (abX hs (by decide))⟩
  ·rw[acE,hfl,yf hl];exact kle 1000 (agd.mpr hs) rfl
  ·rw[hfl]
   exact q _ h.bg.bg.bg
end
noncomputable abbrev zp (a0:By) (a1:Nat) (a2 a3 a4:Option V):Lo:=[some (.bytes a0),some (.ref a1),a2,a3,a4,none,none,none,none]
noncomputable def dJ:By->Int
 | []=>0
 |b::r=>(b.toNat:Int)+256*dJ r
theorem zq(b:UInt8):(b.toNat:Int)<256:=by
 have:=b.toNat_lt
 lia
theorem oW:∀ l:By,0<=dJ l∧dJ l<256 ^ l.length
 | []=>by decide
 |b::r=>by
  have h:=oW r
  have:=zq b
  have e:(256:Int) ^ (b::r).length=256 ^ r.length*256:=Int.pow_succ _ _
  rw[e]
  generalize (256:Int) ^ r.length=p at*
  show 0<=(b.toNat:Int)+256*dJ r∧(b.toNat:Int)+256*dJ r<p*256
  lia
theorem PD{v x:Int}(hv:0<=v)(h0:0<=x)(hx:x<256):afk (v*2 ^ (8:Int).toNat) x=x+256*v:=by
 obtain⟨n,rfl⟩:=abf hv
 obtain⟨m,rfl⟩:=abf h0
 have e:((n:Int)*2 ^ (8:Int).toNat)=((n*256:Nat):Int):=by
  rfl
 rw[e]
 have h1:∀ k:Nat,decide (0<=aee (k:Int))=false:=λk=>decide_eq_false (by unfold aee;lia)
 have h2:∀ k:Int,aee (aee k)=k:=λk=>by unfold aee;lia
 unfold afk acx
 rw[h1,h1]
 dsimp only
 rw[h2,h2,h2,abk,abk]
 have:=Nat.shiftLeft_add_eq_or_of_lt (i:=8) (b:=m) (by lia) n
 rw[Nat.shiftLeft_eq]at this
 rw[show n*256=n*2 ^ 8 by rfl,<-this]
 lia
def nums(b:By):List Int:=(aaw (b.length/4)).map λk=>dJ ((b.drop (4*k)).take 4)
theorem sS(b:By):(nums b).length=b.length/4:=by unfold nums;rw[aad,aap]
theorem PE{n:Nat}:(rangeInts 0 ((4*(n+1):Nat) -4+1) 4).map V.int=(aaw (n+1)).map λ(k:Nat)=>V.int ((4*k:Nat):Int):=by
 unfold rangeInts
 rw[abP]
 have:(if (0:Int)<(4*(n+1):Nat) -4+1 then (((4*(n+1):Nat):Int) -4+1-0-1)/4+1 else 0).toNat=n+1:=by
  have e:((4*(n+1):Nat):Int) -4=((4*n:Nat):Int):=afE ((4*n:Nat):Int) 4
  rw[e,if_pos (show(0:Int)<((4*n:Nat):Int)+1 from acG.mpr (adL _)),ahr,afE]
  show 4*n/4+1=n+1
  rw[agR _ (by decide)]
 rw[this]
 refine abJ λk _=>?_
 show V.int (0+(k:Int)*4)=V.int ((4*k:Nat):Int)
 rw[aeV,Int.mul_comm];rfl
section
variable {F:List Cl} {H:Hp} {n:Nat} {Q:Qh} {X:Xp}
theorem PF{b:By}{m:Nat}(h:Holds H F)(hb:b.length=4*(m+1))(hm:m<=100)(q:∀ H' t,Holds H' ((t,.list ((nums b).map V.int))::F)->Q (.ref t) H'):Cq (Rn 1 n (.ah 109) [.bytes b] H) Q X:=by
 have hl:b.length<=lim:=by rw[hb];unfold lim;lia
 rw[IX]
 refine Cq.fin<|ag<|aY<|eU<|ar ⟨rfl,h,λH t h=>aF ?_⟩
 have er:∀ {st:St} {a:Nat},st.H[a]? =some (.range 0 (((4*(m+1):Nat):Int) -4+1) 4)->iter (.ref a) st=.ok ((aaw (m+1)).map λ(k:Nat)=>V.int ((4*k:Nat):Int),none) st:=λ{st a} e=>by
  show(Lite.obj a>>=km a) st=_
  rw[cb (mK e)]
  show(Lite.guard (eo 0 (((4*(m+1):Nat):Int) -4+1) 4)>>=λ_=>aak ((rangeInts 0 (((4*(m+1):Nat):Int) -4+1) 4).map V.int,none)) st=_
  have:eo 0 (((4*(m+1):Nat):Int) -4+1) 4=true:=by
   unfold eo
   simp only[abD,decide_eq_true_eq]
   lia
  rw[this,PE]
  rfl
 refine ag (jR (n:=m+1) (g:=λ(k:Nat)=>V.int ((4*k:Nat):Int)) (λk st=>cW λx y z=>aO (k<=m+1) (st.lo=(zp b t x y z)) (Holds st.H ((t,.list (((aaw k).map λk=>dJ ((b.drop (4*k)).take 4)).map V.int))::F)))
  (aR<|au<|aq<|au<|aZ<|aZ<|aR<|ba rfl<|r7 hl<|aq<|jS<|aq<|cK<|ba rfl ?_) (λk st hk I=>?_) λst I=>?_)
 ·have e:((b.length:Int) -4+1)=((4*(m+1):Nat):Int) -4+1:=by rw[hb]
  rw[e]
  refine Po h (by unfold eo;simp only[abD,decide_eq_true_eq];lia) λH r h=>?_
  exact⟨er h.hd,_,_,_,abh _,rfl,h.bg⟩
 ·obtain⟨x,y,z,_,hlo,h⟩:=I
  obtain⟨lo,H⟩:=st
  subst hlo
  refine aF<|ip λQ' kq=>ag<|aY<|aq<|aF ?_
  have e4:cM b (some ((4*k:Nat):Int)) (some (((4*k:Nat):Int)+4))=(b.drop (4*k)).take 4:=by
   have:=zj b (4*k) (4*k+4)
   rw[agT]at this
   rw[<-this];rfl
  have hb4:((b.drop (4*k)).take 4).length=4:=by rw[agf,acj,hb,<-Nat.mul_sub];exact acp (agS 4 (Nat.sub_pos_of_lt hk))
  generalize hw:(b.drop (4*k)).take 4=w at e4 hb4
  have e8:small (some (((4*k:Nat):Int)+4))=true:=by
   exact jT (i:=4*k+4) (kle 404 (ahR 4 (abE (aah (aew hk) hm))) rfl)
  refine ag (Pf (b:=w) (λj st=>bT λv z=>cB (j<=4) (v=dJ (w.drop (4-j))) (st.lo=(zp b t (some (.int ((4*k:Nat):Int))) (some (.int v)) z)) (Holds st.H ((t,.list (((aaw k).map λk=>dJ ((b.drop (4*k)).take 4)).map V.int))::F))) (by rw[hb4];exact kle 4 (aaZ _) rfl)
   (af<|aj rfl<|af<|ba rfl<|af<|ba rfl<|Pt (jT (by lia)) e8 hl ?_) (λj st hj I=>?_) λst I=>?_)
  ·rw[e4]
   exact⟨rfl,0,_,by lia,by rw[aby (by lia)];rfl,rfl,h⟩
  ·obtain⟨v,z,hj4,rfl,hlo,h⟩:=I
   obtain⟨lo,H⟩:=st
   subst hlo
   have hj:j<4:=hb4▸hj
   have hv:=oW (w.drop (4-j))
   have hv64:(dJ (w.drop (4-j))).natAbs<2 ^ 64:=by
    rw[acj,hb4,Nat.sub_sub_self hj4]at hv
    have hp:(256:Int) ^ j<=16777216:=by
     have:=abg.mpr (ahE (n:=256) (by decide) (aew hj))
     rwa [Int.natCast_pow]at this
    obtain⟨x,hx⟩:=abf hv.1
    rw[hx]at hv ⊢
    exact akg (acG.mp (afF hv.2 hp)) (by decide)
   refine aF<|ip λQ' kr=>ag<|aY<|aZ<|aZ<|aj rfl<|aq<|ze (by decide) hv64<|aj rfl<|Pj<|aF ?_
   refine kr .next _ ⟨_,_,hj,?_,rfl,h⟩
   rw[PD hv.1 (aaL _) (zq _)]
   have hd:3-j<w.length:=hb4▸aiD (Nat.sub_le 3 j)
   have e3:w.drop (4-(j+1))=w[3-j]::w.drop (4-j):=by
    rw[show 4-(j+1)=3-j from Nat.sub_succ' 4 j |>.trans (Nat.sub_right_comm 4 j 1),<-abx (h:=hd),NQ hj]
   rw[e3]
   have e5:w.reverse.getD j 0=w[3-j]:=by
    rw[aat,List.getElem?_reverse (by lia),hb4]
    show w[3-j]?.getD 0=_
    rw[aaz hd];rfl
   rw[e5];rfl
  ·obtain⟨v,z,_,rfl,hlo,h⟩:=I
   obtain⟨lo,H⟩:=st
   subst hlo
   rw[hb4]at*
   have hll:(((aaw k).map λk=>dJ ((b.drop (4*k)).take 4)).map V.int).length<lim:=by
    rw[aad,aad,aap];unfold lim;lia
   refine ag<|bh<|i0<|aj rfl ⟨rfl,h.hd,aj rfl ⟨h.hd,hll,?_⟩⟩
   refine kq .next _ ⟨_,_,_,hk,rfl,?_⟩
   rw[adz,aaq,aaq]
   show Holds _ ((t,O.list (_++[V.int (dJ ((b.drop (4*k)).take 4))]))::F)
   rw[hw]
   exact h.dt _
 ·obtain⟨x,y,z,_,hlo,h⟩:=I
  obtain⟨lo,H⟩:=st
  subst hlo
  unfold bQ
  refine ag<|cQ<|aj rfl (q H t ?_)
  have:b.length/4=m+1:=by rw[hb,jH]
  unfold nums
  rw[this];exact h
end
noncomputable abbrev PG (a0:By) (a1:Int) (a2:Nat):Lo:=[some (.bytes a0),some (.int a1),some (.ref a2),none,none,none]
section
variable {X:Xp} {C:Ct} {lo:Lo} {H:Hp} {Q:V->Sp}
theorem sT{k n:Nat}(h:k<n):place (k:Int) n=some k:=by
 unfold place
 rw[if_pos (aaL k),abk,if_pos h]
theorem fY{a k:Nat}{xs:List V}{v:V}(e:H[a]? =some (.list xs))(hl:xs.length<=lim)(ev:xs[k]? =some v)(q:Q v ⟨lo,H⟩):Wq (cX (.ref a) (.int (k:Int)) ⟨lo,H⟩) Q X:=
 mO (f:=λ_=>pH (.int (k:Int))) e<|af<|bJ rfl<|af<|af<|bp (decide_eq_true hl)<|bJ (sT (aan.mp ev).1)<|bJ ev q
theorem PH{a k:Nat}{xs:List V}{v:V}(e:H[a]? =some (.tuple xs))(hl:xs.length<=lim)(ev:xs[k]? =some v)(q:Q v ⟨lo,H⟩):Wq (cX (.ref a) (.int (k:Int)) ⟨lo,H⟩) Q X:=
 mO (f:=λ_=>pH (.int (k:Int))) e<|af<|bJ rfl<|af<|af<|bp (decide_eq_true hl)<|bJ (sT (aan.mp ev).1)<|bJ ev q
end
def cnt(b:By):Int:=dJ (b.take 4)
def gD(b:By)(most:Int):Option (List Int):=if most<cnt b∨((b.length/4:Nat):Int)<=cnt b then none else some (((nums b).drop 1).take (cnt b).toNat)
theorem oX(b:By):0<=cnt b:=(oW _).1
theorem zr{c:Int}{m:Nat}(h0:0<=c)(h:c<=m):c.toNat<=m:=agd.mpr h
theorem PI{b:By}{most:Int}{m:Nat}{ns:List Int}(hb:b.length=4*(m+1))(e:gD b most=some ns):cB (((nums b).drop 1).take (cnt b).toNat=ns) (ns.length=(cnt b).toNat) (cnt b<=m) (cnt b<=most):=by
 unfold gD at e
 split at e
 ·contradiction
 rename_i hd
 obtain⟨h1,h2⟩:=not_or.mp hd
 rw[hb]at h2
 have hc:=NP h2
 have e:=aae.inj e
 refine⟨e,?_,hc,abI.mp h1⟩
 rw[<-e,agf,acj,sS,hb]
 exact NO (zr (oX b) hc)
section
variable {F:List Cl} {H:Hp} {n:Nat} {Q:Qh} {X:Xp}
theorem PJ{b:By}{m:Nat}{most:Int}(h:Holds H F)(hb:b.length=4*(m+1))(hm:m<=100)(q1:∀ ns H' t,gD b most=some ns->Holds H' ((t,.list (ns.map V.int))::F)->Q (.ref t) H')(q2:gD b most=none->False):
  Cq (Rn 2 n (.ah 116) [.bytes b,.int most] H) Q X:=by
 have hn:(nums b).length=m+1:=by rw[sS,hb,jH]
 have hll:((nums b).map V.int).length<=lim:=by rw[aad,hn];exact kle 101 (abE hm) rfl
 have h0:((nums b).map V.int)[0]? =some (.int (cnt b)):=by
  unfold nums cnt
  rw[hb,jH,abP,abu,List.getElem?_range (adL m)]
  rfl
 have hc:=oX b
 rw[I3]
 refine Cq.fin<|ag<|aY<|fo rfl rfl<|PF h hb hm λH t h=>aF ?_
 refine ag<|cR<|dD<|af<|aR<|ba rfl<|fK h.hd hll<|bu<|aq<|gB (r:=false) (decide_eq_false (by rw[aad,hn];lia)) ?_
 refine dD<|af<|af<|aj rfl<|af<|aq<|fY (k:=0) h.hd hll h0<|bu<|aj rfl<|iZ (r:=decide (most<cnt b)) rfl ?_
 by_cases d1:most<cnt b
 ·exact(q2 (if_pos (.inl d1))).elim
 rw[decide_eq_false d1]
 refine dD<|af<|af<|aj rfl<|af<|aq<|fY (k:=0) h.hd hll h0<|bu<|aR<|ba rfl<|fK h.hd hll<|oB (r:=decide (((b.length/4:Nat):Int)<=cnt b)) (by rw[aad,sS]) ?_
 by_cases d2:((b.length/4:Nat):Int)<=cnt b
 ·exact(q2 (if_pos (.inr d2))).elim
 rw[decide_eq_false d2]
 show Wq (ax (xG (Rn 1 n)) ⟨(PG b most t),H⟩) (cP Q) X
 have hc1:cnt b<m+1:=by rw[hb,jH]at d2;exact adf.mp d2
 have e1:(1:Int)+cnt b=((1+(cnt b).toNat:Nat):Int):=congrArg ((1:Int)+·) (tn hc)
 have ec:cM ((nums b).map V.int) (some 1) (some (1+cnt b))=(((nums b).drop 1).take (cnt b).toNat).map V.int:=by
  rw[e1]
  have:=zj ((nums b).map V.int) 1 (1+(cnt b).toNat)
  rw[agT]at this
  rw[agO,ajq]
  exact this
 refine ag<|cQ<|af<|aj rfl<|af<|ba rfl<|af<|af<|aZ<|aq<|af<|aj rfl<|af<|aq<|fY (k:=0) h.hd hll h0<|cK<|af<|aq<|aq<|sP (jT (i:=1) (by decide)) (by rw[e1,Nat.add_comm];exact jT (kle 101 (abE (aah (agd.mpr (ahD hc1)) hm)) rfl)) h.hd hll h.bg λH t2 h=>?_
 rw[ec]at h
 exact q1 _ H t2 (if_neg (not_or.mpr ⟨d1,d2⟩)) h
end
noncomputable abbrev zt (a0 a1:Nat) (a2 a3:Option V):Lo:=[some (.ref a0),some (.ref a1),a2,a3,none,none,none]
structure Cm(s:Dk)(c:Ch):Prop where
 r:Rest s c
 p:∀ k,bS c k=0
 m:0<c.most
section
variable {s:Dk} {c:Ch} {j:Jn} {F:List Cl} {H:Hp} {n:Nat} {Q:Qh} {X:Xp}
theorem Cm.jb(y:Cm s c):fL c:=⟨[],y.m,λk hk=>absurd (y.p k) hk⟩
theorem Cm.view(y:Cm s c)(k:Int):view s c k=aI s k:=by
 have hp:=y.p k
 unfold bS at hp
 unfold Lite.view
 cases e:c.ak.find? (λb=>b.n==k)with
 |none=>rfl
 |some b=>
  rw[e]at hp
  have hm:=abv e
  have hn:b.n=k:=by simpa using adx e
  rw[<-hn]
  exact y.r.ok.clean b hm hp (y.r.idle b hm)
theorem zu(h:Holds H (DC s c F))(y:Cm s c){x:Int}(h1:0<=x)(h2:x<s.B)(q:∀ H' c2,Cm s c2->c2.ca=c.ca->Holds H' (DC s c2 F)->Q (.bytes (aI s x)) H'):Cq (Rn 4 n (.ah 404) [.ref c.ca,.int x] H) Q X:=
 y8 h y.r y.jb h1 h2 λH c2 r2 e ca mo h=>by
  rw[y.view]
  exact q H c2 ⟨r2,λk=>((e k).2).trans (y.p k),mo▸y.m⟩ ca h
theorem zv(h:Holds H (DC s c F))(y:Cm s c){x:Int}(h1:0<=x)(h2:x<s.B){o:By}(ho:(o.length:Int)=s.S)(hu:s.un.length<1000)(hw:s.fq->gn s.w=true)(z:s.fq->∀ H',Holds H' (av s.eJ++F)->X 95 H')
  (q:∀ H' t c2,Cm (s.wrote t x o) c2->c2.ca=c.ca->Holds H' (DC (s.wrote t x o) c2 F)->Q .none H'):Cq (Rn 4 n (.ah 411) [.ref c.ca,.int x,.bytes o] H) Q X:=
 y9 h y.r y.jb h1 h2 ho hu hw z λ_ H t c2 r2 e ca mo h=>q H t c2 ⟨r2,λk=>((e k).2).trans (y.p k),mo▸y.m⟩ ca h
theorem Cm.len(y:Cm s c)(x:Int):((aI s x).length:Int)=s.S:=oJ y.r.ok.dk x
noncomputable def gV (B a z:Int) (ns:List Int) (i:Nat):Bool:=decide (B<=ns.getD i 0)||(decide (a<=ns.getD i 0)&&decide (ns.getD i 0<a+z))||(ns.take i).contains (ns.getD i 0)
def mQ(B a z:Int)(ns:List Int):Option (List Int):=if (aaw ns.length).all (λi=>!gV B a z ns i)then some ns else none
def fM(b:By)(most B a z:Int):Option (List Int):=(gD b most).bind (mQ B a z)
theorem PL{B a z:Int}{ns:List Int}{i:Nat}(hi:i<ns.length)(hb:gV B a z ns i=true):mQ B a z ns=none:=by
 refine if_neg λh=>?_
 have:=aaV.mp h i (abm.mpr hi)
 rw[hb]at this;contradiction
theorem zw{B a z:Int}{ns:List Int}(h:∀ i,i<ns.length->gV B a z ns i=false):mQ B a z ns=some ns:=if_pos (aaV.mpr λi hi=>by rw[h i (abm.mp hi)];rfl)
theorem PM{m:Nat}(h:Holds H (aN c.ca j++DC s c F))(y:Cm s c)(h1:0<=j.start)(h2:j.start<s.B)(hS:s.S=(4*(m+1):Nat))(hm:m<=100)
  (q1:∀ ns H' t c2,fM (aI s j.start) j.places s.B j.start j.size=some ns->ns.length<=m->Cm s c2->c2.ca=c.ca->Holds H' ((t,.list (ns.map V.int))::(aN c2.ca j++DC s c2 F))->Q (.ref t) H')
  (q2:fM (aI s j.start) j.places s.B j.start j.size=none->False):
  Cq (Rn 5 n (.ah 208) [.ref j.jo] H) Q X:=by
 have hz:=y.len j.start
 rw[hS]at hz
 have hz:(aI s j.start).length=4*(m+1):=agy.inj hz
 rw[J8]
 refine Cq.fin<|ag<|aY<|aR<|au<|aW oF rfl rfl<|aw rfl (aU h) (aS (by decide)) rfl rfl ⟨rfl,bF (cL h),au<|aw rfl (aU h) (aS (by decide)) rfl rfl<|ar<|zu (cL h) y h1 h2 λH c2 y ca h=>?_⟩
 rw[<-ca]at h
 have h:=eM h
 refine au<|aw rfl (aU h) (aS (by decide)) rfl rfl<|ar<|gy rfl<|PJ h hz hm (λns H t e h=>aF ?_) λe=>q2 (by unfold fM;rw[e];rfl)
 have hi:=PI hz e
 have hlm:ns.length<=m:=hi.2▸zr (oX _) hi.3
 clear hi
 have hln:(ns.map V.int).length<=lim:=by rw[aad];unfold lim;lia
 have rd:fM (aI s j.start) j.places s.B j.start j.size=mQ s.B j.start j.size ns:=by unfold fM;rw[e];rfl
 refine ag<|jP (a:=t) (xs:=ns.map V.int) (λi st=>bT λx z=>aO (st.lo=(zt j.jo t x z)) (∀ k,k<i->gV s.B j.start j.size ns k=false) (Holds st.H ((t,.list (ns.map V.int))::(aN c2.ca j++DC s c2 F)))) (aaJ (by rw[aad];lia))
  (aj rfl ⟨rfl,h.hd,_,_,rfl,λk hk=>absurd hk (aed _),h⟩) (λi st I=>?_) (λi x st hx I=>?_) λst I=>?_
 ·obtain⟨_,_,_,_,h⟩:=I;exact h.hd
 ·obtain⟨a1,a2,hlo,hb,h⟩:=I
  obtain⟨lo,H⟩:=st
  subst hlo
  rw[abu]at hx
  obtain⟨x,hxi,rfl⟩:=aaR.mp hx
  have hi:i<ns.length:=(aan.mp hxi).1
  have hg:ns.getD i 0=x:=by rw[aat,hxi];rfl
  have h:=h.app [O.tuple [.int i,.int x]]
  refine d6 fX<|aF<|aF<|ip λQ' kq=>?_
  generalize H++[O.tuple [.int i,.int x]]=H at h
  have hj:=h.bg
  refine ag<|cR<|Wq.mono (Q:=λb st=>aO (b=gV s.B j.start j.size ns i) (st.lo=(zt j.jo t (some (.int i)) (some (.int x)))) (Holds st.H ((t,.list (ns.map V.int))::(aN c2.ca j++DC s c2 F)))) ?_ (λb st p=>?_) λ_ _ p=>p
  ·have eb:gV s.B j.start j.size ns i=(decide (s.B<=x)||j.own x||(ns.take i).contains x):=by unfold gV Jn.own;rw[hg]
   rw[eb]
   refine dD<|af<|aj rfl<|bu<|af<|af<|aw rfl (aU hj) (aS (by decide)) rfl rfl<|gS (bF (cL hj)) (bU (by decide)) rfl rfl<|gS (bq (gU (cL hj))) (bA (by decide)) rfl rfl<|oB (r:=decide (s.B<=x)) rfl ?_
   cases decide (s.B<=x)with
   |true=>exact⟨rfl,rfl,h⟩
   |false=>
   refine dD<|af<|aW yx rfl rfl<|aj rfl ⟨rfl,aU hj,ba rfl<|zc hj<|du ?_⟩
   cases j.own x with
   |true=>exact⟨rfl,rfl,h⟩
   |false=>
   refine dD<|af<|aj rfl<|bu<|af<|aj rfl<|af<|aq<|af<|ba rfl<|sP sO (jT (i:=i) (by lia)) h.hd hln h λH t2 h=>sQ (xs:=ns.take i) ?_ rfl ?_
   ·rw[h.hd,zk,agO]
   ·have h:=h.bg
    cases (ns.take i).contains x with
    |true=>exact⟨rfl,rfl,h⟩
    |false=>exact⟨rfl,rfl,h⟩
  ·obtain⟨rfl,hlo,h⟩:=p
   obtain⟨lo,H⟩:=st
   subst hlo
   cases eb:gV s.B j.start j.size ns i with
   |true=>exact(q2 (rd.trans (PL hi eb))).elim
   |false=>
    refine kq .next _ ⟨_,_,rfl,λk hk=>?_,h⟩
    rcases Nat.lt_succ_iff_lt_or_eq.mp hk with hk |rfl
    ·exact hb k hk
    ·exact eb
 ·obtain⟨a1,a2,hlo,hb,h⟩:=I
  obtain⟨lo,H⟩:=st
  subst hlo
  unfold bQ
  rw[aad]at hb
  exact ag<|cQ<|aj rfl<|q1 ns H t c2 (rd.trans (zw hb)) hlm y ca h
end
abbrev Ws:=List (Int×By)
noncomputable def upd (v:Int->By) (x:Int) (o:By) (k:Int):By:=if k=x then o else v k
def aM(l:Ws)(d:Int->By):Int->By:=l.foldl (λd p=>upd d p.1 p.2) d
def bytesAt(S:Int)(es:List (Int×V))(k:Int):By:=match es.lookup k with
 |some (.bytes b)=>b
 |_=>zeros S
theorem kS(l:Ws)(d:Int->By)(x:Int)(o:By):aM (l++[(x,o)]) d=upd (aM l d) x o:=by
 unfold aM;rw[acO];rfl
theorem jU{k:Int}:∀ {l:Ws} {d:Int->By},(∀ q∈l,q.1≠k)->aM l d k=d k
 | [],_,_=>rfl
 |q::l,d,h=>(jU (l:=l) λr hr=>h r (.tail _ hr)).trans (if_neg (acm (h q (.head _))))
theorem PN(S:Int)(es:List (Int×V))(x:Int)(o:By)(k:Int):bytesAt S (dput es x (.bytes o)) k=upd (bytesAt S es) x o k:=by
 unfold bytesAt upd
 rw[kO]
 by_cases h:k=x
 ·rw[if_pos h,if_pos h]
 ·rw[if_neg h,if_neg h]
theorem jV{d d':Int->By}(h:∀ k,d k=d' k):∀ (l:Ws) (k:Int),aM l d k=aM l d' k:=λl k=>by rw[show d=d' from funext h]
theorem oY(S:Int):∀ (l:List (Nat×Int×By)) (es:List (Int×V)) (k:Int),bytesAt S (dR l es) k=aM (l.map (·.2)) (bytesAt S es) k
 | [],_,_=>rfl
 |t::l,es,k=>(oY S l _ k).trans (jV (PN S es t.2.1 t.2.2) _ k)
structure Wr(s s':Dk)(l:Ws):Prop where
 lt:∀ k,aI s' k=aM l (aI s) k
 un:s'.un.map (·.2)=s.un.map (·.2)++l
 ke:s'.ke=s.ke
 w:s'.w=s.w+l.length
 B:s'.B=s.B
 S:s'.S=s.S
 f:s'.f=s.f
 dk:s'.dk=s.dk
 la:s'.la=s.la
 lf:s'.lf=s.lf
theorem Wr.zero(s:Dk):Wr s s []:=⟨λ_=>rfl,(aar _).symm,rfl,(adn _).symm,rfl,rfl,rfl,rfl,rfl,rfl⟩
theorem Wr.step{s s1:Dk}{l:Ws}(g:Wr s s1 l)(t:Nat)(x:Int)(o:By):Wr s (s1.wrote t x o) (l++[(x,o)]) where
 lt k:=by rw[mJ,kS];unfold upd;rw[g.lt]
 un:=by show(s1.un++[(t,x,o)]).map (·.2)=_;rw[aaq,g.un,aaf];rfl
 ke:=g.ke
 w:=by show s1.w+1=_;rw[g.w,aag,aeF];rfl
 B:=g.B
 S:=g.S
 f:=g.f
 dk:=g.dk
 la:=g.la
 lf:=g.lf
theorem Wr.iB{s s1:Dk}{l:Ws}(g:Wr s s1 l):s1.un.length=s.un.length+l.length:=by
 have:=congrArg aey g.un
 rwa [aad,aag,aad]at this
section
variable {s:Dk} {c:Ch} {j:Jn} {F:List Cl} {H:Hp} {n:Nat} {Q:Qh} {X:Xp}
theorem sU{S:Int}:∀ {l:List (Nat×Int×By)} {ke:List (Int×V)},(∀ x v,ke.lookup x=some v->∃ b,v=.bytes b∧(b.length:Int)=S)->(∀ t∈l,(t.2.2.length:Int)=S)->∀ x v,(dR l ke).lookup x=some v->∃ b,v=.bytes b∧(b.length:Int)=S
 | [],_,h,_=>h
 |t::l,ke,h,hl=>sU (l:=l) (λx v e=>by
  rw[kO]at e
  split at e
  ·obtain rfl:=aae.inj e;exact⟨_,rfl,hl t (.head _)⟩
  ·exact h x v e) λu hu=>hl u (.tail _ hu)
theorem bR.fl{u:Nat}(ok:bR s):bR (s.fl u):=⟨ok.b,ok.z,oN ok.ke ok.un,ok.le,ok.lv,λt ht=>(nomatch ht),ok.al,sU ok.kv ok.uz,λt ht=>(nomatch ht)⟩
theorem Cm.fl{u:Nat}(y:Cm s c):Cm (s.fl u) c:=
 ⟨⟨⟨y.r.ok.dk.fl,⟨y.r.ok.ak.nd,y.r.ok.ak.r,y.r.ok.ak.z,y.r.ok.ak.p⟩,y.r.ok.clean,y.r.ok.bn,y.r.ok.key,y.r.ok.len,y.r.ok.most,y.r.ok.size⟩,y.r.idle⟩,y.p,y.m⟩
noncomputable def fN (d:Int->By) (p:Int) (ns:List Int) (i:Nat):Ws:=(aaw i).map λ(k:Nat)=>(ns.getD k 0,d (p+k))
theorem PO(d:Int->By)(p:Int)(ns:List Int)(i:Nat):fN d p ns (i+1)=fN d p ns i++[(ns.getD i 0,d (p+i))]:=by
 unfold fN;rw[adz,aaq];rfl
theorem mR(d:Int->By)(p:Int)(ns:List Int)(i:Nat):(fN d p ns i).length=i:=by unfold fN;rw[aad,aap]
theorem jc(h:s.la=none){P:Prop}:s.fq->P:=λ⟨k,e,_⟩=>by rw[h]at e;contradiction
theorem oZ{w:Int}{k:Nat}(h:0<=w∧w<=1000)(hk:k<=1000):gn (w+k)=true:=decide_eq_true (rX (agG h.1 (aaL k)) (abX (ajr h.2 (abg.mpr hk)) (by decide)))
structure sV(B a z:Int)(ns:List Int):Prop where
 r:∀ x∈ns,0<=x∧x<B
 o:∀ x∈ns,x<a∨a+z<=x
 l:(ns.length:Int)<z
 b:0<=a∧a+z<=B
theorem getD_mem{ns:List Int}{i:Nat}(h:i<ns.length):ns.getD i 0∈ns:=by
 rw[aat,aaz h];exact aga h
theorem PQ{d:Int->By}{a z p k:Int}{B:Int}{ns:List Int}{i:Nat}(g:sV B a z ns)(hi:i<=ns.length)(h1:a<=k)(h2:k<a+z)(e:Int->By):aM (fN d p ns i) e k=e k:=jU λq hq=>by
 obtain⟨m,hm,rfl⟩:=aau.mp hq
 have:=g.o _ (getD_mem (abV (abm.mp hm) hi))
 rintro rfl
 exact this.elim (abI.mpr h1) λl=>abI.mpr l h2
theorem PR{a:Nat}{ns:List Int}(h:Holds H (aN c.ca j++DC s c F))(ha:(a,O.list (ns.map V.int))∈F)(y:Cm s c)(g:sV s.B j.start j.size ns)(hl:ns.length<=100)(hla:s.la=none)(hw:0<=s.w∧s.w<=900)(hu:s.un=[])
  (x:s.cy->∀ H' s1,bR s1->Wr s s1 (fN (aI s) (j.start+1) ns ns.length)->Holds H' (av s1.eJ++F)->X 95 H')
  (q:¬ s.cy->∀ H' s1 c1 u,Wr s s1 (fN (aI s) (j.start+1) ns ns.length)->Cm (s1.fl u) c1->c1.ca=c.ca->Holds H' (aN c1.ca j++DC (s1.fl u) c1 F)->Q .none H'):
  Cq (Rn 5 n (.ah 201) [.ref j.jo,.ref a,.bool true] H) Q X:=by
 have mem:∀ {c1:Ch} {s1:Dk},(a,O.list (ns.map V.int))∈aN c1.ca j++DC s1 c1 F:=aac _ (aac _ (aac _ ha))
 have gb:=g.b
 rw[xM]
 refine Cq.fin<|ag<|jP (a:=a) (xs:=ns.map V.int) (λi st=>gf λx z w s1 c1=>gd (st.lo=[some (.ref j.jo),some (.ref a),some (.bool true),x,z,w,none]) (Wr s s1 (fN (aI s) (j.start+1) ns i)) (Cm s1 c1) (c1.ca=c.ca) (Holds st.H (aN c1.ca j++DC s1 c1 F))) (aaJ (by rw[aad];lia))
  (aj rfl ⟨rfl,h.get mem,_,_,_,s,c,rfl,Wr.zero s,y,rfl,h⟩) (λi st I=>?_) (λi x st hx I=>?_) λst I=>?_
 ·obtain⟨_,_,_,_,_,_,_,_,_,h⟩:=I;exact h.get mem
 ·obtain⟨_,_,_,s1,c1,hlo,gw,y,ca,h⟩:=I
  obtain⟨lo,H⟩:=st
  subst hlo
  rw[abu]at hx
  obtain⟨x,hxi,rfl⟩:=aaR.mp hx
  have hi:i<ns.length:=(aan.mp hxi).1
  have hg:ns.getD i 0=x:=by rw[aat,hxi];rfl
  have hr:=g.r x (abw hxi)
  have gl:=g.l
  have h:=h.app [O.tuple [.int i,.int x]]
  refine d6 fX<|aF<|aF<|ip λQ' kq=>?_
  generalize H++[O.tuple [.int i,.int x]]=H at h
  have hD:=cL h
  refine ag<|aY<|aW oF rfl rfl<|aw rfl (aU h) (aS (by decide)) rfl rfl ⟨rfl,bF hD,au<|gR<|af<|aj rfl<|du ?_⟩
  refine aZ<|aZ<|aw rfl (aU h) (aS (by decide)) rfl rfl<|aq<|cK<|aj rfl<|cK<|ar ?_
  refine zu hD y (by lia) (by rw[gw.B];lia) λH c2 y2 ca2 h=>aF ?_
  have ev:aI s1 (j.start+1+i)=aI s (j.start+1+i):=by rw[gw.lt];exact PQ g (acR hi) (by lia) (by lia) _
  rw[ev]
  have hD:=h
  have h:=eM h
  rw[<-ca2]at h
  refine ag<|bh<|aW mG rfl rfl<|aw rfl (aU h) (aS (by decide)) rfl rfl ⟨rfl,bF (cL h),ba rfl ?_⟩
  refine zv (cL h) y2 hr.1 (by rw[gw.B];exact hr.2) (by rw[<-ev];exact y2.len _) (by rw[gw.iB,hu,mR];show 0+i<1000;lia) (jc (gw.la.trans hla)) (jc (gw.la.trans hla)) λH t c3 y3 ca3 h=>?_
  have h:=eM h
  rw[<-ca3]at h
  refine kq .next _ ⟨_,_,_,_,c3,rfl,?_,y3,ca3.trans (ca2.trans ca),h⟩
  rw[PO,hg]
  exact gw.step t x _
 ·obtain⟨_,_,_,s1,c1,hlo,gw,y,ca,h⟩:=I
  obtain⟨lo,H⟩:=st
  subst hlo
  rw[aad]at gw
  have hD:=cL h
  have hst:s1.cy->s.cy:=λ⟨k,e,hk⟩=>⟨k,gw.lf▸e,gw.f▸hk⟩
  have hst2:s.cy->s1.cy:=λ⟨k,e,hk⟩=>⟨k,gw.lf.trans e,by rw[gw.f];exact hk⟩
  refine ag<|bh<|aW mF rfl rfl<|aw rfl (aU h) (aS (by decide)) rfl rfl ⟨rfl,bF hD,ar<|sC hD y.r.ok.dk (aaJ (by rw[gw.iB,hu,mR];show 0+ns.length<=1000;lia)) (λ_=>by rw[gw.w,mR];exact oZ ⟨hw.1,by lia⟩ (by lia)) (λe H h=>?_) λe H u h=>?_⟩
  ·exact x (hst e) H s1 y.r.ok.dk gw (Holds.sub h (abj (aaM _) (aaG _ _)))
  ·exact q (λz=>e (hst2 z)) H s1 c1 u gw y.fl ca (eM h)
end
section
variable {X:Xp} {C:Ct} {lo:Lo} {H:Hp}
theorem Holds.kT{x:Cl}{c:List Cl}(h:Holds H (x::c)){a:Nat}{o:O}(m:(a,o)∈c):a≠x.1:=λe=>(aaI.mp h.nd).1 (by show x.1∈c.map (·.1);rw[<-e];exact abp (f:=λx:Cl=>x.1) m)
theorem zx{α:Type}[DecidableEq α]{f:V->V->Option Bool}{g:α->V}(hf:∀ x y,f (g x) (g y)=some (decide (x=y))):∀ xs ys:List α,xs.length=ys.length->gZ f (xs.map g) (ys.map g)=some (decide (xs=ys))
 | [],[],_=>rfl
 |x::xs,y::ys,h=>by
  show((f (g x) (g y)).bind λr=>(gZ f (xs.map g) (ys.map g)).bind λr'=>some (r&&r'))=_
  rw[hf,zx hf xs ys (acu.inj h)]
  show some (decide (x=y)&&decide (xs=ys))=_
  rw[<-Bool.decide_and,decide_eq_decide.mpr ain.symm]
theorem kU{α:Type}[DecidableEq α]{g:α->V}{n a b:Nat}{xs ys:List α}(hf:∀ x y,gj H n (g x) (g y)=some (decide (x=y)))(ne:a≠b)(ea:H[a]? =some (.list (xs.map g)))(eb:H[b]? =some (.list (ys.map g))):gj H (n+1) (.ref a) (.ref b)=some (decide (xs=ys)):=by
 show(if a=b then none else pE (gj H n) H[a]? H[b]?)=_
 rw[if_neg ne,ea,eb]
 show(if (xs.map g).length=(ys.map g).length then gZ (gj H n) (xs.map g) (ys.map g)else some false)=_
 rw[aad,aad]
 by_cases h:xs.length=ys.length
 ·rw[if_pos h];exact zx hf xs ys h
 ·rw[if_neg h,decide_eq_false λe=>h (congrArg _ e)]
theorem sW{α:Type}[DecidableEq α][BEq α][LawfulBEq α](x y:α):(x==y)=decide (x=y):=by
 by_cases h:x=y
 ·rw[decide_eq_true h,h];exact beq_self_eq_true y
 ·rw[decide_eq_false h];exact beq_eq_false_iff_ne.mpr h
theorem sX(n:Nat)(x y:Int):gj H (n+1) (.int x) (.int y)=some (decide (x=y)):=congrArg some (sW x y)
theorem sY(n:Nat)(x y:By):gj H (n+1) (.bytes x) (.bytes y)=some (decide (x=y)):=congrArg some (sW x y)
theorem kW{a b:V}{r:Bool}{Q:Bool->Sp}(e:gj H 4 a b=some r)(q:Q (!r) ⟨lo,H⟩):Wq (cF .NotEq a b ⟨lo,H⟩) Q X:=af<|af<|bJ e<|aq q
theorem sZ{a:Nat}{xs:List Int}{c:List Cl}{Q:Bool->Sp}(h:Holds H c)(ha:(a,O.list (xs.map V.int))∈c)(q:∀ H',Holds H' c->Q (!decide (xs=[])) ⟨lo,H'⟩):Wq (aV (.ref a) [.NotEq] [listS []] ⟨lo,H⟩) Q X:=
 bu<|eU<|ar ⟨rfl,h,λH t h=>kW (kU (ys:=[]) (sX 2) (h.kT ha) (h.get (.tail _ ha)) h.hd) (q H h.bg)⟩
end
section
variable {s:Dk} {c:Ch} {j:Jn} {F:List Cl} {H:Hp} {n:Nat} {Q:Qh} {X:Xp}
theorem pull{x:Cl}{Y:List Cl}(h:Holds H (Y++DC s c (x::F))):Holds H (x::(Y++DC s c F)):=by
 have e:∀ F,Y++DC s c F=(Y++d7 s c++av s)++F:=λF=>by simp only[aaf]
 simp only[e]at h ⊢
 exact h.perm acy
theorem push{x:Cl}{Y:List Cl}(h:Holds H (x::(Y++DC s c F))):Holds H (Y++DC s c (x::F)):=by
 have e:∀ F,Y++DC s c F=(Y++d7 s c++av s)++F:=λF=>by simp only[aaf]
 simp only[e]at h ⊢
 exact h.perm acy.symm
theorem zy{S:Int}(h:4<=S):ck [] S=zeros S:=by
 show dE 0++aaT (S-4).toNat 0=aaT S.toNat 0
 have:dE 0=aaT 4 0:=by decide
 rw[this,List.replicate_append_replicate,t4 (by assumption)]
theorem PS{a:Nat}(h:Holds H (aN c.ca j++DC s c F))(ha:(a,O.list ([].map V.int))∈F)(y:Cm s c)(h1:0<=j.start)(h2:j.start<s.B)(hS:4<=s.S)(hla:s.la=none)(hw:0<=s.w∧s.w<=990)(hu:s.un=[])
  (x:s.cy->∀ H' s1,bR s1->Wr s s1 [(j.start,zeros s.S)]->Holds H' (av s1.eJ++F)->X 95 H')
  (q:¬ s.cy->∀ H' s1 c1 u,Wr s s1 [(j.start,zeros s.S)]->Cm (s1.fl u) c1->c1.ca=c.ca->Holds H' (aN c1.ca j++DC (s1.fl u) c1 F)->Q .none H'):
  Cq (Rn 5 n (.ah 194) [.ref j.jo,.ref a] H) Q X:=by
 have mem:(a,O.list ([].map V.int))∈aN c.ca j++DC s c F:=aac _ (aac _ (aac _ ha))
 have hz:=y.r.ok.size
 have hS2:=y.r.ok.dk.z
 rw[xK]
 refine Cq.fin<|ag<|bh<|aW mG rfl rfl<|aw rfl (aU h) (aS (by decide)) rfl rfl ⟨rfl,bF (cL h),au<|aw rfl (aU h) (aS (by decide)) rfl rfl<|au ?_⟩
 refine aR<|au<|aj rfl<|au<|af<|aw rfl (aU h) (aS (by decide)) rfl rfl<|gS (bF (cL h)) (bU (by decide)) rfl rfl<|ar<|gy rfl ?_
 rw[hz]
 refine zo h mem (λ_ z=>nomatch z) hS hS2.2 λH h=>ar ?_
 rw[zy hS]
 refine zv (cL h) y h1 h2 (by unfold zeros;rw[acE];lia) (by rw[hu];exact Nat.zero_lt_succ _) (jc hla) (jc hla) λH t c1 y ca h=>?_
 have gw:=(Wr.zero s).step t j.start (zeros s.S)
 have h:=eM h
 rw[<-ca]at h
 generalize s.wrote t j.start (zeros s.S)=s1 at gw y h
 have hst:s1.cy->s.cy:=λ⟨k,e,hk⟩=>⟨k,gw.lf▸e,gw.f▸hk⟩
 have hst2:s.cy->s1.cy:=λ⟨k,e,hk⟩=>⟨k,gw.lf.trans e,by rw[gw.f];exact hk⟩
 have hD:=cL h
 unfold bQ
 refine ag<|bh<|aW mF rfl rfl<|aw rfl (aU h) (aS (by decide)) rfl rfl ⟨rfl,bF hD,ar<|sC hD y.r.ok.dk (aaJ (by rw[gw.iB,hu];exact abR rfl)) (λ_=>by rw[gw.w];exact oZ ⟨hw.1,by lia⟩ (abR rfl)) (λe H h=>?_) λe H u h=>?_⟩
 ·exact x (hst e) H s1 y.r.ok.dk gw (Holds.sub h (abj (aaM _) (aaG _ _)))
 ·exact q (λz=>e (hst2 z)) H s1 c1 u gw y.fl ca (eM h)
structure gW(B S:Int)(j:Jn)(m:Nat):Prop where
 a:0<=j.start
 b:j.start+j.size<=B
 z:2<=j.size
 S:S=(4*(m+1):Nat)
 m:m<=100
 p:j.places<=j.size-1
 c:j.calls=0
 n:j.ns=[]
theorem PU{b:By}{x:Int}(h:x∈nums b):0<=x:=by
 obtain⟨k,_,rfl⟩:=aau.mp h
 exact(oW _).1
theorem PV{b:By}{most B a z:Int}{ns:List Int}(h:fM b most B a z=some ns)(hp:most<=z-1)(hb:0<=a∧a+z<=B):sV B a z ns:=by
 unfold fM at h
 obtain⟨ns',h1,h2⟩:=aaj.mp h
 clear h
 unfold gD at h1
 split at h1
 ·contradiction
 rename_i hd
 unfold mQ at h2
 split at h2
 case isFalse=>contradiction
 rename_i hg
 cases h2
 have e:=aae.inj h1
 have good:∀ i,i<ns.length->ns.getD i 0<B∧(ns.getD i 0<a∨a+z<=ns.getD i 0):=λi hi=>by
  have:=aaV.mp hg i (abm.mpr hi)
  unfold gV at this
  simp only[Bool.not_eq_true',afi,Bool.and_eq_false_iff,decide_eq_false_iff_not]at this
  exact⟨adf.mp this.1.1,this.1.2.imp adf.mp abI.mp⟩
 have at_:∀ x∈ns,∃ i,i<ns.length∧ns.getD i 0=x:=λx hx=>by
  obtain⟨i,hi⟩:=abG hx
  exact⟨i,(aan.mp hi).1,by rw[aat,hi];rfl⟩
 refine⟨λx hx=>⟨?_,?_⟩,λx hx=>?_,?_,hb⟩
 ·rw[<-e]at hx
  exact PU (afg (afh hx))
 ·obtain⟨i,hi,rfl⟩:=at_ x hx;exact(good i hi).1
 ·obtain⟨i,hi,rfl⟩:=at_ x hx;exact(good i hi).2
 ·have hl:ns.length<=(cnt b).toNat:=by rw[<-e];exact ahF _ _
  exact aem (abX (abX (abg.mpr hl) (ajX (oq (oX b)))) (abX (abI.mp (not_or.mp hd).1) hp)) (Int.sub_one_lt_of_le (acS _))
end
noncomputable abbrev zA (a0 a1:Nat):Lo:=[some (.ref a0),some (.ref a1),none]
section
variable {s:Dk} {c:Ch} {j:Jn} {F:List Cl} {H:Hp} {n:Nat} {Q:Qh} {X:Xp} {m:Nat}
structure PW(s:Dk)(j:Jn)(ns:List Int)(F:List Cl)(X:Xp):Prop where
 a:s.cy->∀ H' s1,bR s1->Wr s s1 (fN (aI s) (j.start+1) ns ns.length)->Holds H' (av s1.eJ++F)->X 95 H'
 b:¬ s.cy->∀ H' s1 s2 u,Wr s s1 (fN (aI s) (j.start+1) ns ns.length)->(s1.fl u).cy->bR s2->Wr (s1.fl u) s2 [(j.start,zeros s.S)]->Holds H' (av s2.eJ++F)->X 95 H'
abbrev gW.rd(s:Dk)(j:Jn):Option (List Int):=fM (aI s j.start) j.places s.B j.start j.size
theorem PX(h:Holds H (aN c.ca j++DC s c F))(y:Cm s c)(g:gW s.B s.S j m)(hla:s.la=none)(hw:0<=s.w∧s.w<=800)(hu:s.un=[])
  (q1:gW.rd s j=none->False)
  (q2:∀ H' t c2,gW.rd s j=some []->Cm s c2->c2.ca=c.ca->Holds H' ((t,.list ([].map V.int))::(aN c2.ca j++DC s c2 F))->Q (.ref t) H')
  (q3:∀ ns,gW.rd s j=some ns->ns≠[]->¬ s.cy->∀ H' t s1 s2 u1 u2 c2,Wr s s1 (fN (aI s) (j.start+1) ns ns.length)->¬ (s1.fl u1).cy->Wr (s1.fl u1) s2 [(j.start,zeros s.S)]->Cm (s2.fl u2) c2->c2.ca=c.ca->Holds H' ((t,.list (ns.map V.int))::(aN c2.ca j++DC (s2.fl u2) c2 F))->Q (.ref t) H')
  (x:∀ ns,gW.rd s j=some ns->ns≠[]->PW s j ns F X):
  Cq (Rn 6 n (.ah 215) [.ref j.jo] H) Q X:=by
 have gz:=g.z;have gb:=g.b;have ga:=g.a
 rw[Kd]
 refine Cq.fin<|ag<|dC<|dD<|af<|aw rfl (aU h) (aS (by decide)) rfl rfl<|bu<|aq<|iZ (r:=false) (decide_eq_false (by rw[g.c];decide)) ?_
 refine dD<|af<|aw rfl (aU h) (aS (by decide)) rfl rfl<|sZ (xs:=j.ns) h (.tail _ (.head _)) λH h=>?_
 rw[g.n]
 refine⟨rfl,?_⟩
 refine ag<|aY<|aW Oe rfl rfl<|aj rfl ⟨rfl,aU h,ar<|PM h y ga (by lia) g.S g.m (λns H t c1 hr hm y1 ca h=>aF ?_) q1⟩
 have fin:∀ {H':Hp},Q (.ref t) H'->Wq (ax (rQ (Rn 5 n)) ⟨(zA j.jo t),H'⟩) (cP Q) X:=λq=>ag<|cQ<|aj rfl q
 refine ag<|cR<|af<|aj rfl<|sZ (xs:=ns) h (.head _) λH h=>?_
 by_cases hn:ns=[]
 ·subst hn
  exact fin (q2 H t c1 hr y1 ca h)
 rw[decide_eq_false hn]
 have xx:=x ns hr hn
 have ok:=PV hr g.p ⟨ga,gb⟩
 have hl:=g.m
 have h:=push h
 have drop:∀ {s1:Dk} {H':Hp},Holds H' (av s1++((t,O.list (ns.map V.int))::F))->Holds H' (av s1++F):=λh=>h.sub (abj (aaM _) (acq _ _))
 refine ag<|bh<|aW yy rfl rfl<|aj rfl ⟨rfl,aU h,ba rfl<|PR h (.head _) y1 ok (by lia) hla ⟨hw.1,by lia⟩ hu (λe H s1 k1 w1 h=>xx.a e H s1 k1 w1 (drop h)) λe H s1 c2 u1 w1 y2 ca2 h=>?_⟩
 have w1w:0<=s1.w∧s1.w<=900:=by rw[w1.w,mR];lia
 have hS:s1.S=s.S:=w1.S
 have hB:s1.B=s.B:=w1.B
 refine ag<|bh<|aW r9 rfl rfl<|aj rfl ⟨rfl,aU h,au<|eU (c:=aN c2.ca j++DC (s1.fl u1) c2 ((t,.list (ns.map V.int))::F))<|ar ⟨rfl,h,λH t2 h=>ar ?_⟩⟩
 refine PS (s:=s1.fl u1) (push h) (.head _) y2 ga (by show _<s1.B;rw[hB];lia) (by show _<=s1.S;rw[hS,g.S];lia) (w1.la.trans hla) ⟨w1w.1,by show s1.w<=990;lia⟩ rfl (λe2 H s2 k2 w2 h=>?_) λe2 H s2 c3 u2 w2 y3 ca3 h=>?_
 ·refine xx.b e H s1 s2 u1 w1 e2 k2 (hS▸w2) (drop ?_)
  exact h.sub (abj (aaM _) (acq _ _))
 ·show Wq (ax (rQ (Rn 5 n)) ⟨(zA j.jo t),H⟩) (cP Q) X
  refine fin (q3 ns hr hn e H t s1 s2 u1 u2 c3 w1 e2 (hS▸w2) y3 (ca3.trans (ca2.trans ca)) ?_)
  exact pull (Y:=aN c3.ca j) (pull h).bg
end
section
variable {X:Xp} {lo:Lo} {H:Hp}
theorem s6{Q:Bool->Sp}{e:M Bool}(h:Wq (e ⟨lo,H⟩) Q X):Wq (allM .And [e] ⟨lo,H⟩) Q X:=by
 delta allM
 refine af (h.mono (λt s q=>?_) λ_ _ q=>q)
 cases t<;>exact q
theorem o3{Q:Bool->Sp}{e:M Bool}(h:Wq (e ⟨lo,H⟩) Q X):Wq (allM .Or [e] ⟨lo,H⟩) Q X:=by
 delta allM
 refine af (h.mono (λt s q=>?_) λ_ _ q=>q)
 cases t<;>exact q
theorem cA{Q:Fl->Sp}{k a:Nat}{D:Addr}{fs:List (Nat×V)}{m:M V}(e1:P0.cD.contains (D,k)=true)(e3:acT fs.length 100=true)
  (h:Wq (m ⟨lo,H⟩) (λv s=>s.lo[0]? =some (some (.ref a))∧∃ c,Holds s.H ((a,.inst D fs)::c)∧∀ H',Holds H' ((a,.inst D (e9 fs k v))::c)->Q .next ⟨s.lo,H'⟩) X):
  Wq (Lite.aE m (λv=>(Lite.ae 0)>>=λo=>Lite.sA P0 k o v) ⟨lo,H⟩) Q X:=by
 refine aY (h.mono (λv s q=>?_) λ_ _ q=>q)
 obtain⟨e0,c,hc,q⟩:=q
 exact af<|aj e0<|jK hc.hd e1 e3 (q _ (hc.dt _))
theorem Holds.sw{x y:Cl}{c:List Cl}(h:Holds H (x::y::c)):Holds H (y::x::c):=h.perm (aaS _ _ _)
end
noncomputable def fw (t ke le un:Nat) (B S:Int):Dk:=⟨t,ke,le,un,B,S,0,0,none,none,false,[],[],[]⟩
noncomputable def jd (t row cj:Nat) (m S:Int):Ch:=⟨t,row,cj,m,S,0,0,0,[],[]⟩
theorem PY{t ke le un:Nat}{B S:Int}(hB:0<=B∧B<=1000)(hS:0<=S∧S<=1000):bR (fw t ke le un B S):=
 ⟨hB,hS,di.nil,di.nil,λ_ _ e=>(nomatch e),λ_ e=>(nomatch e),rfl,λ_ _ e=>(nomatch e),λ_ e=>(nomatch e)⟩
section
variable {F:List Cl} {H:Hp} {n:Nat} {Q:Qh} {X:Xp} {t:Nat}
theorem zB{B S:Int}(h:Holds H ((t,.inst 533 [])::F))(hB:1<=B)(hS:1<=S)(q:∀ H' ke le un,Holds H' (av (fw t ke le un B S)++F)->Q .none H'):Cq (Rn 1 n (.ah 453) [.ref t,.int B,.int S] H) Q X:=by
 rw[LU]
 refine Cq.fin<|ag<|dC<|dD<|af<|aj rfl<|bu<|aq<|fp (r:=false) (decide_eq_false (by lia)) ?_
 unfold oA
 refine o3<|af<|aj rfl<|bu<|aq<|fp (r:=false) (decide_eq_false (by lia)) ⟨rfl,?_⟩
 refine ag<|cA (bA (by decide)) rfl<|aj rfl ⟨rfl,_,h,λH h=>?_⟩
 refine ag<|cA (bA (by decide)) rfl<|aj rfl ⟨rfl,_,h,λH h=>?_⟩
 refine ag<|cA (bA (by decide)) rfl<|d5 h λH ke h=>⟨rfl,_,h.sw,λH h=>?_⟩
 refine ag<|cA (bA (by decide)) rfl<|d5 h λH le h=>⟨rfl,_,h.sw,λH h=>?_⟩
 refine ag<|cA (bA (by decide)) rfl<|eU<|ar ⟨rfl,h,λH un h=>⟨rfl,_,h.sw,λH h=>?_⟩⟩
 refine ag<|cA (bA (by decide)) rfl<|aq ⟨rfl,_,h,λH h=>?_⟩
 refine ag<|cA (bA (by decide)) rfl<|aq ⟨rfl,_,h,λH h=>?_⟩
 refine ag<|cA (bA (by decide)) rfl<|aq ⟨rfl,_,h,λH h=>?_⟩
 refine ag<|cA (bA (by decide)) rfl<|aq ⟨rfl,_,h,λH h=>?_⟩
 refine ag<|cA (bA (by decide)) rfl<|aq ⟨rfl,_,h,λH h=>?_⟩
 have h:Holds H ((t,gT (fw t ke le un B S))::(un,.list [])::(le,.dict [])::(ke,.dict [])::F):=h
 exact q H ke le un (h.perm (aaU _ ((aaS _ _ _).trans ((aaU _ (aaS _ _ _)).trans (aaS _ _ _)))))
theorem zC{s:Dk}{m:Int}(h:Holds H ((t,.inst 435 [])::(av s++F)))(hm:1<=m)(q:∀ H' row cj,Holds H' (DC s (jd t row cj m s.S) F)->Q .none H'):Cq (Rn 1 n (.ah 334) [.ref t,.ref s.dk,.int m] H) Q X:=by
 rw[KH]
 refine Cq.fin<|ag<|dC<|af<|aj rfl<|bu<|aq<|fp (r:=false) (decide_eq_false (by omega)) ⟨rfl,?_⟩
 refine ag<|cA (bU (by decide)) rfl<|aj rfl ⟨rfl,_,h,λH h=>?_⟩
 refine ag<|cA (bU (by decide)) rfl<|aj rfl ⟨rfl,_,h,λH h=>?_⟩
 refine ag<|cA (bU (by decide)) rfl<|aw rfl (bq h.bg) (bA (by decide)) rfl rfl ⟨rfl,_,h,λH h=>?_⟩
 refine ag<|cA (bU (by decide)) rfl<|eU<|ar ⟨rfl,h,λH row h=>⟨rfl,_,h.sw,λH h=>?_⟩⟩
 refine ag<|cA (bU (by decide)) rfl<|d5 h λH cj h=>⟨rfl,_,h.sw,λH h=>?_⟩
 refine ag<|cA (bU (by decide)) rfl<|aq ⟨rfl,_,h,λH h=>?_⟩
 refine ag<|cA (bU (by decide)) rfl<|aq ⟨rfl,_,h,λH h=>?_⟩
 refine ag<|cA (bU (by decide)) rfl<|aq ⟨rfl,_,h,λH h=>?_⟩
 have h:Holds H ((t,eX s (jd t row cj m s.S))::(cj,.dict [])::(row,.list [])::(av s++F)):=h
 exact q H row cj (h.perm (aaU _ (aaS _ _ _)))
end
section
variable {X:Xp} {lo:Lo} {H:Hp} {C:Ct} {Q:V->Sp}
theorem s7{a b:Int}(q:Q (.int (min a b)) ⟨lo,H⟩):Wq (aP P0 C true (.bi "min") [.int a,.int b] ⟨lo,H⟩) Q X:=by
 have e:aP P0 C true (.bi "min") [.int a,.int b] ⟨lo,H⟩=.ok (.int (min a b)) ⟨lo,H⟩:=by kernel_rfl
 rw[e];exact q
theorem zD{a b:Int}(h:b≠0∧b.natAbs<2 ^ 64)(q:Q (.int (a.fdiv b)) ⟨lo,H⟩):Wq (binop .FloorDiv (.int a) (.int b) ⟨lo,H⟩) Q X:=by
 refine af<|bJ rfl<|af<|bp ?_ q
 exact aab.mpr ⟨decide_eq_true h.1,decide_eq_true h.2⟩
theorem kX{a b:Int}(h:b≠0)(q:Q (.int (a.fmod b)) ⟨lo,H⟩):Wq (binop .Mod (.int a) (.int b) ⟨lo,H⟩) Q X:=by
 exact af<|bJ rfl<|af<|bp (decide_eq_true h) q
end
section
variable {s:Dk} {c:Ch} {F:List Cl} {H:Hp} {n:Nat} {Q:Qh} {X:Xp} {t:Nat}
theorem zE{e:V}(h:Holds H ((t,.inst 218 [])::DC s c F))(cz:c.size=16)(cm:c.most=8)(hB:5<=s.B)(he:e=.none∨e=.int 1)
  (q:∀ H' nums fG ea,(e=.int 1->ea=1)->Holds H' (aN c.ca ⟨t,nums,fG,1,4,3,3,ea,0,0,[],[]⟩++DC s c F)->Q .none H'):Cq (Rn 1 n (.ah 131) [.ref t,.ref c.ca,.int 1,.int 4,e] H) Q X:=by
 rw[xJ]
 refine Cq.fin<|ag<|dC<|dD<|af<|aj rfl<|bu<|aq<|fp (r:=false) rfl ?_
 unfold oA
 refine dD<|af<|aj rfl<|bu<|aq<|fp (r:=false) rfl ?_
 unfold oA
 refine o3<|af<|ba rfl<|bu<|af<|aw rfl (bF h.bg) (bU (by decide)) rfl rfl<|gS (bq (gU h.bg)) (bA (by decide)) rfl rfl<|iZ (r:=false) (decide_eq_false (abI.mpr hB)) ⟨rfl,?_⟩
 refine ag<|cA (aS (by decide)) rfl<|aj rfl ⟨rfl,_,h,λH h=>?_⟩
 refine ag<|cA (aS (by decide)) rfl<|aj rfl ⟨rfl,_,h,λH h=>?_⟩
 refine ag<|cA (aS (by decide)) rfl<|aj rfl ⟨rfl,_,h,λH h=>?_⟩
 refine ag<|cA (aS (by decide)) rfl<|aR<|au<|ba rfl<|au<|aZ<|aZ<|aw rfl (bF h.bg) (bU (by decide)) rfl rfl<|aq<|zD (by decide)<|aq<|jS<|ar<|s7 ⟨rfl,_,h,λH h=>?_⟩
 rw[cz]at h
 refine ag<|cA (aS (by decide)) rfl<|aR<|au<|aw rfl h.hd (aS (by decide)) rfl rfl<|au<|aZ<|aw rfl (bF h.bg) (bU (by decide)) rfl rfl<|aq<|jS<|ar<|s7 ⟨rfl,_,h,λH h=>?_⟩
 rw[cm]at h
 have h:Holds H ((t,.inst 218 [(10,.ref c.ca),(11,.int 1),(12,.int 4),(13,.int 3),(14,.int 3)])::DC s c F):=h
 refine ag<|dC<|af<|aw rfl h.hd (aS (by decide)) rfl rfl<|bu<|aq<|fp (r:=false) rfl ⟨rfl,?_⟩
 refine ag<|cA (a:=t) (fs:=[(10,.ref c.ca),(11,.int 1),(12,.int 4),(13,.int 3),(14,.int 3)]) (aS (by decide)) rfl<|gR<|af<|aj rfl<|bu<|aq ?_
 have fin:∀ {H:Hp} {ea:Int},1<=ea->ea<=3->(e=.int 1->ea=1)->Holds H ((t,.inst 218 [(10,.ref c.ca),(11,.int 1),(12,.int 4),(13,.int 3),(14,.int 3),(16,.int ea)])::DC s c F)->Wq (ax (xH (Rn 0 n)) ⟨rP (.ref t) (.ref c.ca) (.int 1) (.int 4) e,H⟩) (cP Q) X:=by
  intro H ea e1 e2 e3 h
  refine ag<|dC<|af<|af<|aq<|mB<|aw rfl h.hd (aS (by decide)) rfl rfl<|jM (r:=true) (decide_eq_true e1) ?_
  refine bu<|aw rfl h.hd (aS (by decide)) rfl rfl<|jM (r:=true) (decide_eq_true e2) ((aq ⟨rfl,?_⟩))
  refine ag<|cA (aS (by decide)) rfl<|eU<|ar ⟨rfl,h,λH nums h=>⟨rfl,_,h.sw,λH h=>?_⟩⟩
  refine ag<|cA (aS (by decide)) rfl<|d5 h λH fG h=>⟨rfl,_,h.sw,λH h=>?_⟩
  refine ag<|cA (aS (by decide)) rfl<|aq ⟨rfl,_,h,λH h=>?_⟩
  refine ag<|cA (aS (by decide)) rfl<|aq ⟨rfl,_,h,λH h=>?_⟩
  exact q H nums fG ea e3 (h.perm (aaU _ (aaS _ _ _)))
 rcases he with rfl |rfl
 ·refine yY ?_
  refine aR<|au<|aq<|au<|aw rfl h.hd (aS (by decide)) rfl rfl<|ar<|s7 ⟨rfl,_,h,λH h=>?_⟩
  exact fin (ea:=3) (by decide) (by decide) (λz=>nomatch z) h
 ·refine ba rfl ?_
  exact aj rfl ⟨rfl,_,h,λH h=>fin (ea:=1) (by decide) (by decide) (λ_=>rfl) h⟩
end
noncomputable abbrev zF (a0 a1 a2:Nat) (a3 a4 a5:Option V):Lo:=[some (.ref a0),some (.ref a1),some (.ref a2),a3,a4,a5,none,none,none,none,none]
section
variable {X:Xp} {lo:Lo} {H:Hp} {C:Ct}
theorem kY{Q:V->Sp}{D init:Addr}{args:List V}{c:List Cl}(e:P0.cls.lookup D=some init)(hc:Holds H c)
  (h:∀ H' t,Holds H' ((t,.inst D [])::c)->Cq (C (.ah init) (V.ref t::args) H') (yi lo t Q) X):Wq (aP P0 C true (.ah D) args ⟨lo,H⟩) Q X:=
 yp e (h _ _ (hc.new _))
end
noncomputable def Dk.kH (s:Dk) (k:Int):Dk:={s with lf:=some (s.f+k)}
noncomputable def d8 (cs:List Int) (un:List (Nat×Int×By)) (i:Nat):List (Nat×Int×By):=((aaw i).filter λ(k:Nat)=>cs.contains (k:Int)).map λk=>un.getD k (0,0,[])
theorem PZ(cs:List Int)(un:List (Nat×Int×By))(i:Nat):d8 cs un (i+1)=if cs.contains (i:Int)then d8 cs un i++[un.getD i (0,0,[])]else d8 cs un i:=by
 unfold d8
 rw[adz,abH,aaq,adN,aiO]
 cases cs.contains (i:Int)
 ·exact aar _
 ·rfl
theorem P1(l:List (Nat×Int×By))(t:Nat×Int×By)(ke:List (Int×V)):dR (l++[t]) ke=dput (dR l ke) t.2.1 (.bytes t.2.2):=by
 unfold dR;rw[acO];rfl
theorem o4{cs:List Int}{un:List (Nat×Int×By)}{i:Nat}(hi:i<=un.length){t:Nat×Int×By}(h:t∈d8 cs un i):t∈un:=by
 obtain⟨k,hk,rfl⟩:=aau.mp h
 have hk:=abm.mp (aeQ.mp hk).1
 rw[aat,aaz (by lia)];exact aga _
noncomputable def Dk.mid (s:Dk) (t ka la ua:Nat) (K L:List (Int×V)):Dk:=⟨t,ka,la,ua,s.B,s.S,0,0,none,none,false,K,L,[]⟩
def Dk.kZ(s:Dk)(cs:List Int)(t ka la ua:Nat):Dk:=s.mid t ka la ua (dR (d8 cs s.un s.un.length) s.ke) (dR (d8 cs s.un s.un.length) s.ke)
section
variable {s:Dk} {F:List Cl} {H:Hp} {n:Nat} {Q:Qh} {X:Xp}
theorem P2{k:Int}(h:Holds H (av s++F))(hk:0<=k)(q:∀ H',Holds H' (av (s.kH k)++F)->Q .none H'):Cq (Rn 1 n (.ah 509) [.ref s.dk,.int k] H) Q X:=by
 rw[Mz]
 refine Cq.fin<|ag<|dC<|af<|aj rfl<|bu<|aq<|fp (r:=false) (decide_eq_false (by lia)) ⟨rfl,?_⟩
 exact ag<|aY<|aZ<|aw rfl (bq h) (bA (by decide)) rfl rfl<|aj rfl<|cK<|af<|aj rfl<|iu (c':=av (s.kH k)++F) (bq h) (bA (by decide)) rfl (h.dt _) λH h=>q H h
theorem P4{cs:List Int}{tc:Nat}(h:Holds H (av s++F))(hc:(tc,O.list (cs.map V.int))∈F)(hB:1<=s.B∧s.B<=1000)(hS:1<=s.S)(hk:di s.B s.ke)(hun:∀ t∈s.un,0<=t.2.1∧t.2.1<s.B)(hu:s.un.length<=900)(hcs:∀ c∈cs,0<=c∧c<(s.un.length:Int))(hcl:cs.length<=900)
  (q:∀ H' t ka la ua,Holds H' (av (s.kZ cs t ka la ua)++(av s++F))->Q (.ref t) H'):Cq (Rn 2 n (.ah 516) [.ref s.dk,.ref tc] H) Q X:=by
 have mem:∀ {G:List Cl},(tc,O.list (cs.map V.int))∈av s++(G++F):=aac _ (aac _ hc)
 have hul:(s.un.map λt=>V.ref t.1).length<=lim:=by rw[aad];unfold lim;lia
 rw[MJ]
 refine Cq.fin<|ag<|aY<|aR<|au<|aw rfl (bq h) (bA (by decide)) rfl rfl<|au<|aw rfl (bq h) (bA (by decide)) rfl rfl<|ar<|kY (init:=453) rfl h λH t h=>zB h hB.1 hS λH ke0 la ua h=>⟨rfl,aF ?_⟩
 have h:Holds H (av (s.mid t ke0 la ua [] [])++(av s++F)):=h
 refine ag<|aY<|aR<|au<|aw rfl (bq h.front) (bA (by decide)) rfl rfl<|ar<|zh h (oM h.front) (hk.lim hB.2) λH ka h=>af<|aj rfl<|iu (c':=av (s.mid t ka la ua s.ke [])++(av s++F)) (bq h.bg) (bA (by decide)) rfl ?_ λH h=>?_
 ·exact((h.dZ (gT (s.mid t ka la ua s.ke []))).perm (aaS _ _ _)).sub (.cons_cons _ (.cons_cons _ (.cons _ (aaM _))))
 ·refine ag<|i8 (a:=tc) (xs:=cs.map V.int) (λvs st=>∃ w,aO (∃ d e,cs=d++e∧vs=e.map V.int) (st.lo=(zF s.dk tc t w none none)) (Holds st.H (av s++(av (s.mid t ka la ua s.ke [])++F)))) (aaJ (by rw[aad];lia))
   (aj rfl ⟨rfl,h.front.get mem,_,⟨[],cs,rfl,rfl⟩,rfl,h.front⟩) (λvs st I=>?_) (λv vs st I=>?_) λst I=>?_
  ·obtain⟨_,_,_,h⟩:=I;exact h.get mem
  ·obtain⟨_,⟨d,e,ec,ev⟩,hlo,h⟩:=I
   obtain⟨lo,H⟩:=st
   subst hlo
   cases e with
   |nil=>contradiction
   |cons x e=>
    (injection ev;subst_vars)
    have hx:=hcs x (by simp)
    refine aF<|ag<|dC<|af<|af<|aq<|mB<|aj rfl<|jM (r:=true) (decide_eq_true hx.1)<|bu<|aR<|au<|aw rfl (bq h) (bA (by decide)) rfl rfl<|ar<|fK (jN h) hul<|fp (r:=true) (decide_eq_true (by rw[aad];exact hx.2))<|aq ⟨rfl,?_⟩
    exact⟨_,⟨d++[x],e,by simp,rfl⟩,rfl,h⟩
  ·obtain⟨_,_,hlo,h⟩:=I
   obtain⟨lo,H⟩:=st
   subst hlo
   have hKd:∀ i,i<=s.un.length->di s.B (dR (d8 cs s.un i) s.ke):=λi hi=>oN hk λt ht=>hun t (o4 hi ht)
   unfold bQ
   refine ag<|jP (a:=s.iq) (xs:=s.un.map λt=>V.ref t.1) (λi st=>cW λw x y=>aO (i<=s.un.length) (st.lo=(zF s.dk tc t w x y)) (Holds st.H (av s++(av (s.mid t ka la ua (dR (d8 cs s.un i) s.ke) [])++F)))) (aaJ (by rw[aad];lia))
    (aw rfl (bq h) (bA (by decide)) rfl rfl ⟨rfl,jN h,_,_,_,abh _,rfl,h⟩) (λi st I=>?_) (λi x st hx I=>?_) λst I=>?_
   ·obtain⟨_,_,_,_,_,h⟩:=I;exact jN h
   ·obtain⟨_,_,_,_,hlo,h⟩:=I
    obtain⟨lo,H⟩:=st
    subst hlo
    rw[abu]at hx
    obtain⟨u,hui,rfl⟩:=aaR.mp hx
    have hi:i<s.un.length:=(aan.mp hui).1
    have hg:s.un.getD i (0,0,[])=u:=by rw[aat,hui];rfl
    have hm:=abw hui
    have h:=h.app [O.tuple [.int i,.ref u.1]]
    have hu2:(H++[O.tuple [.int i,.ref u.1]])[u.1]? =some (.tuple [.int u.2.1,.bytes u.2.2]):=h.on (cS u) (aao _ (.tail _ (.tail _ (.tail _ (.tail _ (abp hm))))))
    refine d6 fX<|aF<|d6 hu2<|aF<|aF<|ip λQ' kq=>?_
    generalize H++[O.tuple [.int i,.ref u.1]]=H at h
    refine ag<|cR<|af<|aj rfl<|bu<|aj rfl<|sQ (h.get mem) rfl ?_
    have hst:=PZ cs s.un i
    cases hcc:cs.contains (i:Int)with
    |false=>
     rw[hcc]at hst
     refine fj<|kq .next _ ⟨_,_,_,hi,rfl,?_⟩
     rw[hst];exact h
    |true=>
     rw[hcc,if_pos rfl,hg]at hst
     refine ag<|aY<|aj rfl<|af<|aw rfl (bq h.front) (bA (by decide)) rfl rfl<|af<|aj rfl<|mI (oM h.front) ((hKd i (acR hi)).lim hB.2) (h.front.dZ _) λH h=>?_
     refine kq .next _ ⟨_,_,_,hi,rfl,?_⟩
     rw[hst,P1]
     exact Holds.front (X:=av s) h
   ·obtain⟨_,_,_,_,hlo,h⟩:=I
    obtain⟨lo,H⟩:=st
    subst hlo
    rw[aad]at h
    unfold bQ
    refine ag<|aY<|aR<|au<|aw rfl (bq h.front) (bA (by decide)) rfl rfl<|ar<|zh h.front (oM h.front) ((hKd _ (aaZ _)).lim hB.2) λH la2 h=>af<|aj rfl<|iu (c':=av (s.kZ cs t ka la2 ua)++(av s++F)) (bq h.bg) (bA (by decide)) rfl ?_ λH h=>?_
    ·exact((h.dZ (gT (s.kZ cs t ka la2 ua))).perm ((aaS _ _ _).trans (aaU _ (aaS _ _ _)))).sub (.cons_cons _ (.cons_cons _ (.cons_cons _ (.cons _ (aaM _)))))
    ·unfold bQ
     exact ag<|cQ<|aj rfl<|q H t ka la2 ua h
end
structure zG(s:Dk)(B S w f:Int)(lf:Option Int)(d:Int->By):Prop where
 ok:bR s
 B:s.B=B
 S:s.S=S
 w:s.w=w
 f:s.f=f
 la:s.la=none
 lf:s.lf=lf
 un:s.un=[]
 lt:∀ k,aI s k=d k
 ke:∀ k,bytesAt s.S s.ke k=d k
noncomputable def vW (vs:List By) (i:Nat):Ws:=(aaw i).map λ(k:Nat)=>((k:Int),vs.getD k [])
theorem zH(vs:List By)(i:Nat):vW vs (i+1)=vW vs i++[((i:Int),vs.getD i [])]:=by
 unfold vW;rw[adz,aaq];rfl
theorem s8(vs:List By)(i:Nat):(vW vs i).length=i:=by unfold vW;rw[aad,aap]
section
variable {s:Dk} {c:Ch} {F:List Cl} {H:Hp} {n:Nat} {Q:Qh} {X:Xp}
theorem k6{P:Prop}(h:s.lf=none):s.cy->P:=λ⟨k,e,_⟩=>by rw[h]at e;contradiction
theorem zI{vs:List By}{tv:Nat}(h:Holds H F)(hv:(tv,O.list (vs.map V.bytes))∈F)(hl:1<=vs.length∧vs.length<=100)(hz:∀ b∈vs,(b.length:Int)=16)
  (q:∀ H' s,zG s vs.length 16 vs.length 1 none (aM (vW vs vs.length) λ_=>zeros 16)->Holds H' (av s++F)->Q (.ref s.dk) H'):Cq (Rn 3 n (.ah 565) [.ref tv] H) Q X:=by
 have hll:(vs.map V.bytes).length<=lim:=by rw[aad];unfold lim;lia
 rw[M3]
 refine Cq.fin<|ag<|aY<|aR<|au<|aR<|ba rfl<|fK (h.get hv) hll<|ba rfl<|kY (init:=453) rfl h λH t h=>zB h (by rw[aad];lia) (by decide) λH ka la ua h=>⟨rfl,aF ?_⟩
 rw[aad]at h
 have ok0:bR (fw t ka la ua vs.length 16):=PY (by lia) (by lia)
 have hd0:∀ k,aI (fw t ka la ua vs.length 16) k=zeros 16:=λ_=>rfl
 have e0:(fw t ka la ua vs.length 16).w=0∧(fw t ka la ua vs.length 16).f=0∧(fw t ka la ua vs.length 16).un=[]∧(fw t ka la ua vs.length 16).ke=[]∧(fw t ka la ua vs.length 16).la=none∧(fw t ka la ua vs.length 16).lf=none∧(fw t ka la ua vs.length 16).B=vs.length∧(fw t ka la ua vs.length 16).S=16∧(fw t ka la ua vs.length 16).dk=t:=⟨rfl,rfl,rfl,rfl,rfl,rfl,rfl,rfl,rfl⟩
 generalize fw t ka la ua vs.length 16=s0 at h ok0 hd0 e0
 obtain⟨ew,ef,eu,ek,ela,elf,eB,eS,et⟩:=e0
 refine ag<|jP (a:=tv) (xs:=vs.map V.bytes) (λi st=>cW λx y s1=>cB (st.lo=[some (.ref tv),some (.ref t),x,y,none,none,none]) (Wr s0 s1 (vW vs i)) (bR s1) (Holds st.H (av s1++F))) (aaJ (by rw[aad];lia))
  (aj rfl ⟨rfl,h.get (aac _ hv),_,_,s0,rfl,Wr.zero s0,ok0,h⟩) (λi st I=>?_) (λi x st hx I=>?_) λst I=>?_
 ·obtain⟨_,_,_,_,_,_,h⟩:=I;exact h.get (aac _ hv)
 ·obtain⟨_,_,s1,hlo,g,ok,h⟩:=I
  obtain⟨lo,H⟩:=st
  subst hlo
  rw[abu]at hx
  obtain⟨b,hb,rfl⟩:=aaR.mp hx
  have hi:i<vs.length:=(aan.mp hb).1
  have hg:vs.getD i []=b:=by rw[aat,hb];rfl
  have hbz:=hz b (abw hb)
  have h:=h.app [O.tuple [.int i,.bytes b]]
  refine d6 fX<|aF<|aF<|ip λQ' kq=>?_
  generalize H++[O.tuple [.int i,.bytes b]]=H at h
  refine ag<|bh<|aW yC rfl rfl<|aj rfl ⟨by rw[g.dk,et],bq h,ba rfl ?_⟩
  refine yL h (aaL i) (by rw[g.B,eB];lia) (by rw[g.S,eS];exact hbz) (by rw[g.S,eS];exact by decide) (ok.le.lim ok.b.2) (by rw[g.iB,eu,s8];unfold lim;show 0+i<_;lia) ok.al (jc (g.la.trans ela)) (jc (g.la.trans ela)) λ_ H t2 h=>?_
  refine kq .next _ ⟨_,_,_,rfl,?_,ok.wrote (aaL i) (by rw[g.B,eB];lia) (by rw[g.S,eS];exact hbz),h⟩
  rw[zH,hg]
  exact g.step t2 _ _
 ·obtain⟨_,_,s1,hlo,g,ok,h⟩:=I
  obtain⟨lo,H⟩:=st
  subst hlo
  rw[aad]at g
  unfold bQ
  refine ag<|bh<|aW yE rfl rfl<|aj rfl ⟨by rw[g.dk,et],bq h,ar<|yO h ok (aaJ (by rw[g.iB,eu,s8];show 0+vs.length<=1000;lia)) (k6 (g.lf.trans elf)) (k6 (g.lf.trans elf)) λ_ H u h=>?_⟩
  unfold bQ
  refine ag<|cQ<|aj rfl ?_
  have:=q H (s1.fl u) ⟨ok.fl,g.B.trans eB,g.S.trans eS,by show s1.w=_;rw[g.w,ew,s8,aeV],by show s1.f+1=1;rw[g.f,ef];rfl,g.la.trans ela,g.lf.trans elf,rfl,λk=>(g.lt k).trans (jV hd0 _ k),λk=>?_⟩ h
  ·rw[show(s1.fl u).dk=t from g.dk.trans et]at this;exact this
  ·refine(oY _ _ _ k).trans ?_
   rw[g.un,eu,g.ke,ek]
   refine jV (λk=>?_) _ k
   show zeros s1.S=zeros 16
   rw[g.S,eS]
end
section
variable {X:Xp} {C:Ct} {lo:Lo} {H:Hp}
theorem o5{Q:Unit->Sp}{a k:Nat}{i:Int}{xs:List V}{v:V}{c':List Cl}(ei:i=(k:Int))(e:H[a]? =some (.list xs))(hl:xs.length<=lim)(hk:k<xs.length)(hc:Holds (H.set a (.list (xs.set k v))) c')(q:∀ H',Holds H' c'->Q () ⟨lo,H'⟩):Wq (dN (.ref a) (.int i) v ⟨lo,H⟩) Q X:=by
 subst ei
 exact mO (f:=λa=>tQ a (.int (k:Int)) v) e<|af<|bJ rfl<|af<|af<|bp (decide_eq_true hl)<|bJ (sT hk)<|mA (q _ hc)
end
def mT(mask:Int)(k:Nat):Bool:=decide (acx (mask.fdiv (2 ^ (k:Int).toNat)) 1=1)
def cT(mask:Int)(many:Nat):List Int:=((aaw many).filter (mT mask)).map λ(k:Nat)=>(k:Int)
theorem P5(mask:Int)(k:Nat):cT mask (k+1)=if mT mask k then cT mask k++[(k:Int)]else cT mask k:=by
 unfold cT
 rw[adz,abH,aaq,adN,aiO]
 cases mT mask k
 ·exact aar _
 ·rfl
theorem zJ{mask:Int}{many:Nat}:(∀ c∈cT mask many,0<=c∧c<(many:Int))∧(cT mask many).length<=many:=by
 constructor
 ·intro c hc
  obtain⟨k,hk,rfl⟩:=aau.mp hc
  exact⟨aaL k,acG.mpr (abm.mp (aeQ.mp hk).1)⟩
 ·unfold cT
  rw[aad]
  exact aah (aeT _ _) (akf aap)
theorem P6:cT 0 1=[]:=by decide
theorem P7:cT 1 1=[0]:=by decide
noncomputable def eY (vs:List By) (k:Int):By:=vs.getD k.toNat []
def k7(d:Int->By)(a S:Int)(ns:List Int):Ws:=fN d (a+1) ns ns.length++if ns=[]then []else [(a,zeros S)]
theorem zK{us:List By}{i:Nat}{b:By}(hi:i<us.length)(k:Nat):(us.set i b).getD k []=if k=i then b else us.getD k []:=by
 rw[aat,aat,List.getElem?_set]
 by_cases h:i=k
 ·subst h;rw[if_pos rfl,if_pos rfl,if_pos hi];rfl
 ·rw[if_neg h,if_neg (acm h)]
theorem P8{vs:List By}{k:Nat}(h:k<vs.length):(vs.map V.bytes)[k]? =some (.bytes (vs.getD k [])):=by
 rw[abu,aat,aaz h];rfl
section
variable {F:List Cl} {H:Hp} {n:Nat} {Q:Qh} {X:Xp}
theorem P9{mask:Int}{many:Nat}(h:Holds H F)(hm:many<=900)(q:∀ H' t,Holds H' ((t,.list ((cT mask many).map V.int))::F)->Q (.ref t) H'):Cq (Rn 1 n (.ah 596) [.int mask,.int many] H) Q X:=by
 rw[Nv]
 have h:=h.new (.cell (some (.int mask)))
 generalize H.length=cc at h
 generalize H++[O.cell (some (V.int mask))]=H at h
 refine Cq.fin<|ag<|cQ<|mP (items:=(aaw many).map λ(k:Nat)=>V.int k) (o:=none) (lo':=[none,none,some (.ref cc)]) (λvs ys lo1 c1=>aO (c1=(cc,.cell (some (.int mask)))::F) (bT λx y=>lo1=[x,y,some (.ref cc)]) (∃ k:Nat,aO (vs=((aaw many).drop k).map λ(k:Nat)=>V.int k) (ys=(cT mask k).map V.int) (k<=many))) rfl (by rw[aad,aap];lia)
  (aR<|ba rfl<|iz h λH r h=>⟨rfl,_,h.bg,iA h.hd (by lia),rfl,⟨_,_,rfl⟩,0,rfl,rfl,abh _⟩) (λ_ _ _ _ _ _ _=>rfl) (λv vs ys lo1 c1 H1 t J h=>?_) λys lo1 c1 H' t J h=>?_
 ·obtain⟨rfl,⟨x,y,rfl⟩,k,ev,rfl,hk⟩:=J
  have hkn:k<many:=by
   rcases aep k many with q |q
   ·exact q
   ·rw[aby (by rw[aap];exact q)]at ev;contradiction
  rw[<-abx (h:=by rw[aap];exact hkn),aaH,abl]at ev
  obtain⟨rfl,rfl⟩:=abU.inj ev
  have es:=P5 mask k
  refine aF<|s6<|af<|aZ<|aZ<|iY rfl (h.on _ (.tail _ (.head _)))<|aj rfl<|zd (aaL k)<|aq<|zf<|bu<|aq<|gB (r:=mT mask k) rfl ?_
  cases hd:mT mask k with
  |false=>
   rw[hd]at es
   exact⟨_,h,rfl,⟨_,_,rfl⟩,k+1,rfl,by rw[es,if_neg abe];exact aar _,hkn⟩
  |true=>
   rw[hd]at es
   unfold oR
   dsimp only
   exact aj rfl ⟨_,h,rfl,⟨_,_,rfl⟩,k+1,rfl,by rw[es,if_pos rfl];exact(aaq (f:=V.int) (l₁:=cT mask k) (l₂:=[(k:Int)])).symm,hkn⟩
 ·obtain⟨rfl,_,k,ev,rfl,hk⟩:=J
  have hkn:many<=k:=by
   have:=abr.mp ev.symm
   have:=abW.mp this
   rwa [aap]at this
  obtain rfl:k=many:=agw hk hkn
  exact q H' t (h.sub (.cons_cons _ (.cons _ (aaM _))))
end
structure Done(s s':Dk)(l:Ws):Prop where
 lt:∀ k,aI s' k=aM l (aI s) k
 un:s'.un=[]
 w:s'.w=s.w+l.length
 B:s'.B=s.B
 S:s'.S=s.S
 dk:s'.dk=s.dk
 la:s'.la=none
 lf:s'.lf=none
theorem Qa(l l':Ws)(d:Int->By):aM (l++l') d=aM l' (aM l d):=acO
theorem zL{S most B a z:Int}{m:Nat}(hS:S=(4*(m+1):Nat))(hm:0<=most):fM (zeros S) most B a z=some []:=by
 have hl:(zeros S).length=4*(m+1):=by unfold zeros;rw[acE,hS,abk]
 have hc:cnt (zeros S)=0:=by
  unfold cnt zeros
  rw[List.take_replicate,m4 hS]
  decide
 unfold fM gD
 rw[hc,hl,jH,if_neg (not_or.mpr ⟨abI.mpr hm,show ¬ ((m+1:Nat):Int)<=0 from adf.mpr (acG.mpr (adL m))⟩)]
 rfl
section
variable {s:Dk} {c:Ch} {j:Jn} {F:List Cl} {H:Hp} {n:Nat} {Q:Qh} {X:Xp} {m:Nat}
theorem Qb{ns:List Int}(h:Holds H (aN c.ca j++DC s c F))(y:Cm s c)(g:gW s.B s.S j m)(hla:s.la=none)(hlf:s.lf=none)(hw:0<=s.w∧s.w<=800)(hu:s.un=[])(hr:gW.rd s j=some ns)
  (q:∀ H' t s' c2,Cm s' c2->Done s s' (k7 (aI s) j.start s.S ns)->c2.ca=c.ca->Holds H' ((t,.list (ns.map V.int))::(aN c2.ca j++DC s' c2 F))->Q (.ref t) H'):
  Cq (Rn 6 n (.ah 215) [.ref j.jo] H) Q X:=by
 have inj:∀ {ns'},gW.rd s j=some ns'->ns'=ns:=λe=>aae.inj (e.symm.trans hr)
 refine PX h y g hla hw hu (λe=>by rw[hr]at e;contradiction) (λH t c2 e y2 ca h=>?_) (λns' e hne _ H t s1 s2 u1 u2 c2 w1 _ w2 y2 ca h=>?_) λns' e hne=>⟨k6 hlf,λ_ H s1 s2 u w1 e2=>k6 (s:=s1.fl u) (w1.lf.trans hlf) e2⟩
 ·obtain rfl:=inj e
  exact q H t s c2 y2 ⟨λ_=>rfl,hu,(adn _).symm,rfl,rfl,rfl,hla,hlf⟩ ca h
 ·obtain rfl:=inj e
  refine q H t (s2.fl u2) c2 y2 ⟨λk=>?_,rfl,?_,w2.B.trans w1.B,w2.S.trans w1.S,w2.dk.trans w1.dk,(w2.la.trans w1.la).trans hla,(w2.lf.trans w1.lf).trans hlf⟩ ca h
  ·refine(w2.lt k).trans ?_
   unfold k7
   rw[if_neg hne,Qa]
   exact jV w1.lt _ k
  ·show s2.w=_
   rw[w2.w]
   show s1.w+1=_
   rw[w1.w]
   unfold k7
   rw[if_neg hne,aag,mR]
   show s.w+((ns'.length:Nat):Int)+1=s.w+((ns'.length+1:Nat):Int)
   lia
end
theorem Qc:bL 218 "has_room" 79 145:=⟨by kernel_rfl,by kernel_rfl⟩
theorem Qd:bL 218 "begin" 86 159:=⟨by kernel_rfl,by kernel_rfl⟩
theorem Qe:bL 218 "write" 56 166:=⟨by kernel_rfl,by kernel_rfl⟩
theorem Qf:bL 218 "end" 87 173:=⟨by kernel_rfl,by kernel_rfl⟩
theorem Qg:bL 218 "commit" 82 180:=⟨by kernel_rfl,by kernel_rfl⟩
theorem Qi:bL 218 "fill_log" 83 187:=⟨by kernel_rfl,by kernel_rfl⟩
theorem Qj:bL 435 "pin" 28 376:=⟨by kernel_rfl,by kernel_rfl⟩
theorem Qk:bL 435 "unpin" 84 383:=⟨by kernel_rfl,by kernel_rfl⟩
theorem Ql:bL 533 "stop_after" 88 502:=⟨by kernel_rfl,by kernel_rfl⟩
section
variable {X:Xp} {lo:Lo} {H:Hp}
theorem Qm{Q:Bool->Sp}{i:Int}{d:Nat}{es:List (Int×V)}{r:Bool}(e:H[d]? =some (.dict es))(er:(es.lookup i).isSome=r)(q:Q r ⟨lo,H⟩):Wq (cF .In (.int i) (.ref d) ⟨lo,H⟩) Q X:=by
 refine af (bJ rfl (af (bJ rfl (af (gx e ?_)))))
 subst er
 exact q
end
section
variable {s:Dk} {c:Ch} {j:Jn} {F:List Cl} {H:Hp} {n:Nat} {Q:Qh} {X:Xp} {l1 l2:List Bf} {b:Bf}
theorem Qn(h:Holds H (DC s c F))(ok:bC s c)(e:c.ak=l1++b::l2)(hh:b.h≠0)(q:∀ H',Holds H' (DC s (c.with (l1++b.pin (b.p+1)::l2)) F)->Q .none H'):Cq (Rn 2 n (.ah 376) [.ref c.ca,.ref b.a] H) Q X:=by
 rw[Ld]
 refine Cq.fin (ag (bh (aW oE rfl rfl (aj rfl ⟨rfl,bF h,au (aj rfl (ar (oP h ok e hh ?_)))⟩))))
 have hb:=fu e h
 exact ag (ir (c':=cg (b.pin (b.p+1))++i' s c l1 l2 b F) rfl (dj hb) (dh (by decide)) rfl rfl (hb.dt _) λH h=>q _ (kP (b:=b) rfl h))
theorem Qo(h:Holds H (DC s c F))(ok:bC s c)(e:c.ak=l1++b::l2)(hp:b.p≠0)(q:∀ H',Holds H' (DC s (c.with (l1++b.pin (b.p-1)::l2)) F)->Q .none H'):Cq (Rn 1 n (.ah 383) [.ref c.ca,.int b.n] H) Q X:=by
 rw[Li]
 refine Cq.fin (ag (aY (oH (aw rfl (bF h) (bU (by decide)) rfl rfl ⟨rfl,jQ h,au (aj rfl (ar ⟨jQ h,.inl ⟨_,rfl,aF ?_⟩⟩))⟩))))
 rw[yZ ok e]
 have hb:=fu e h
 refine ag (dC (dD (af (aj rfl (bu (aq (yX ?_)))))))
 refine dD (af (aw rfl (dj hb) (dh (by decide)) rfl rfl (bu (aq (gB (r:=false) (decide_eq_false hp) ⟨rfl,?_⟩)))))
 exact ag (sm (c':=cg (b.pin (b.p-1))++i' s c l1 l2 b F) rfl (dj hb) (dh (by decide)) rfl rfl (hb.dt _) λH h=>q _ (kP (b:=b) rfl h))
end
section
variable {ca:Nat} {j:Jn} {F:List Cl} {H:Hp} {n:Nat} {Q:Qh} {X:Xp}
def Jn.room(j:Jn):Bool:=decide ((j.ns.length:Int)+(j.calls+1)*j.each<=j.most)
theorem Qp(h:Holds H (aN ca j++F))(hl:j.ns.length<=1000)(he:j.each.natAbs<=1000)(q:Q (.bool j.room) H):Cq (Rn 1 n (.ah 145) [.ref j.jo] H) Q X:=by
 rw[Jl]
 unfold Jn.room at q
 refine Cq.fin (ag (cQ (jJ (aZ (aR (au (aw rfl (aU h) (aS (by decide)) rfl rfl (ar (fK (gC h) (by rw[aad];unfold lim;lia) ?_)))))))))
 refine aZ (aZ (aw rfl (aU h) (aS (by decide)) rfl rfl (aq (cK (aw rfl (aU h) (aS (by decide)) rfl rfl (iy (.inr (by lia)) (cK ?_)))))))
 refine aw rfl (aU h) (aS (by decide)) rfl rfl (jM (r:=_) rfl ?_)
 rw[aad]
 exact q
def Jn.bX(j:Jn)(k:Int):Jn:={j with calls:=k}
theorem Qq(h:Holds H (aN ca j++F))(hl:j.ns.length<=1000)(he:j.each.natAbs<=1000)(q1:j.room=true->∀ H',Holds H' (aN ca (j.bX (j.calls+1))++F)->Q .none H')(q2:j.room=false->False):Cq (Rn 2 n (.ah 159) [.ref j.jo] H) Q X:=by
 rw[Jq]
 refine Cq.fin (ag (cR (af (af (aW Qc rfl rfl (aj rfl ⟨rfl,aU h,ar (Qp h hl he (du (aq ?_)))⟩))))))
 cases hr:j.room with
 |false=>exact(q2 hr).elim
 |true=>
  refine fj ?_
  exact ag (ir (c':=aN ca (j.bX (j.calls+1))++F) rfl (aU h) (aS (by decide)) rfl rfl (h.dt _) λH h=>q1 hr _ h)
end
section
variable {s:Dk} {c:Ch} {j:Jn} {F:List Cl} {H:Hp} {n:Nat} {Q:Qh} {X:Xp} {l1 l2:List Bf} {b:Bf}
def Jn.note(j:Jn)(x:Int):Jn:={j with ns:=j.ns++[x],nt:=dput j.nt x (.int j.ns.length)}
def Jn.o6(j:Jn)(x:Int):Jn:={j with nt:=dput j.nt x (.int j.ns.length)}
theorem Qr(h:Holds H (aN c.ca j++DC s c F))(ok:bC s c)(e:c.ak=l1++b::l2)(hh:b.h≠0)(hl:j.ns.length<1000)(hnt:j.nt.length<=lim)(hk:∀ k,(j.nt.lookup k).isSome=decide (k∈j.ns))
  (q1:j.calls=0->False) (q2:j.calls≠0->j.own b.n=true->False) (q3:j.calls≠0->j.own b.n=false->b.n∈j.ns->Q .none H) (q4:j.calls≠0->j.own b.n=false->b.n ∉ j.ns->j.most<=(j.ns.length:Int)->False)
  (q5:j.calls≠0->j.own b.n=false->b.n ∉ j.ns->(j.ns.length:Int)<j.most->∀ H',Holds H' (aN c.ca (j.note b.n)++DC s (c.with (l1++b.pin (b.p+1)::l2)) F)->Q .none H'):
  Cq (Rn 3 n (.ah 166) [.ref j.jo,.ref b.a] H) Q X:=by
 have hD:=cL h
 have hb:=dj (fu e hD)
 rw[Jz]
 refine Cq.fin (ag (cR (af (aw rfl (aU h) (aS (by decide)) rfl rfl (bu (aq (gB (r:=decide (j.calls=0)) rfl ?_)))))))
 cases d1:decide (j.calls=0)with
 |true=>exact(q1 (of_decide_eq_true d1)).elim
 |false=>
  have d1:=of_decide_eq_false d1
  refine fj ?_
  refine ag (cR (af (aW yx rfl rfl (aj rfl ⟨rfl,aU h,au (aw rfl hb (dh (by decide)) rfl rfl (ar (zc h (du ?_))))⟩))))
  cases d2:j.own b.n with
  |true=>exact(q2 d1 d2).elim
  |false=>
   refine fj ?_
   refine ag (cR (af (aw rfl hb (dh (by decide)) rfl rfl (bu (aw rfl (aU h) (aS (by decide)) rfl rfl (Qm (zb h) (hk b.n) ?_))))))
   cases d3:decide (b.n∈j.ns)with
   |true=>
    refine ag (bh (aW oE rfl rfl (aw rfl (aU h) (aS (by decide)) rfl rfl ⟨rfl,bF hD,au (aj rfl (ar (oP hD ok e hh ?_)))⟩)))
    exact q3 d1 d2 (of_decide_eq_true d3)
   |false=>
    have d3:=of_decide_eq_false d3
    refine fj ?_
    have hlm:(j.ns.map V.int).length<=lim:=by rw[aad];unfold lim;lia
    refine ag (cR (af (aR (au (aw rfl (aU h) (aS (by decide)) rfl rfl (ar (fK (gC h) hlm (bu (aw rfl (aU h) (aS (by decide)) rfl rfl (oB (r:=decide ((j.ns.length:Int) ≥ j.most)) (by rw[aad]) ?_))))))))))
    cases d4:decide ((j.ns.length:Int) ≥ j.most)with
    |true=>exact(q4 d1 d2 d3 (of_decide_eq_true d4)).elim
    |false=>
     have d4:=of_decide_eq_false d4
     refine fj ?_
     refine ag (bh (aW Qj rfl rfl (aw rfl (aU h) (aS (by decide)) rfl rfl ⟨rfl,bF hD,au (aj rfl (ar (Qn hD ok e hh λH hD=>?_)))⟩)))
     have h:=eM hD
     have hb:=dj (fu (c:=c.with (l1++b.pin (b.p+1)::l2)) (b:=b.pin (b.p+1)) rfl hD)
     refine ag (aY (aR (au (aw rfl (aU h) (aS (by decide)) rfl rfl (ar (fK (gC h) hlm ?_))))))
     refine af (aw rfl (aU h) (aS (by decide)) rfl rfl (af (aw rfl hb (dh (by decide)) rfl rfl ?_)))
     rw[aad]
     refine mI (c':=aN c.ca (j.o6 b.n)++DC s (c.with (l1++b.pin (b.p+1)::l2)) F) (zb h) hnt (h.jL _) λH h=>?_
     have hb:=dj (fu (c:=c.with (l1++b.pin (b.p+1)::l2)) (b:=b.pin (b.p+1)) rfl (cL h))
     refine ag (bh (i0 (ys:=j.ns.map V.int) (aw rfl (aU (j:=j.o6 b.n) h) (aS (by decide)) rfl rfl ⟨rfl,gC (j:=j.o6 b.n) h,aw rfl hb (dh (by decide)) rfl rfl ⟨gC (j:=j.o6 b.n) h,by rw[aad];unfold lim;lia,?_⟩⟩)))
     refine q5 d1 d2 d3 (by lia) _ ?_
     have h:=h.dZ (.list (j.ns.map V.int++[.int b.n]))
     have er:O.list (j.ns.map V.int++[.int b.n])=.list ((j.note b.n).ns.map V.int):=by unfold Jn.note;simp
     show Holds (H.set j.nums (.list (j.ns.map V.int++[.int b.n]))) _
     rw[er]at h ⊢
     exact h
end
/-! what a disk was asked for:a write tells its block and octets,a flush tells none -/
abbrev Ops:=List (Option (Int×By))
def zM(p:Ws×Ws)(o:Option (Int×By)):Ws×Ws:=match o with
 |some w=>(p.1,p.2++[w])
 |none=>(p.1++p.2,[])
def sp(os:Ops):Ws×Ws:=os.foldl zM ([],[])
def bw(os:Ops):Ws:=os.filterMap id
def dw(os:Ops):Nat:=(os.filter (·.isNone)).length
theorem jW(os:Ops)(o:Option (Int×By)):sp (os++[o])=zM (sp os) o:=by unfold sp;rw[acO];rfl
theorem zN(os:Ops)(w:Int×By):bw (os++[some w])=bw os++[w]:=by unfold bw;rw[aeU];rfl
theorem o7(os:Ops):bw (os++[none])=bw os:=by unfold bw;rw[aeU];exact aar _
theorem Qs(os:Ops)(w:Int×By):dw (os++[some w])=dw os:=by unfold dw;rw[abH];exact congrArg aey (aar _)
theorem zO(os:Ops):dw (os++[none])=dw os+1:=by unfold dw;rw[abH,aag];rfl
structure Tr(s s':Dk)(os:Ops):Prop where
 lt:∀ k,aI s' k=aM (bw os) (aI s) k
 ke:∀ k,bytesAt s'.S s'.ke k=aM (sp os).1 (bytesAt s.S s.ke) k
 un:s'.un.map (·.2)=(sp os).2
 w:s'.w=s.w+((bw os).length:Int)
 f:s'.f=s.f+(dw os:Int)
 B:s'.B=s.B
 S:s'.S=s.S
 dk:s'.dk=s.dk
 la:s'.la=s.la
 lf:s'.lf=s.lf
 nw:∀ k,s.la=some k->s.w<=k->s'.w<=k
 nf:∀ k,s.lf=some k->s.f<=k->s'.f<=k
theorem zP(l l':Ws)(d:Int->By):aM (l++l') d=aM l' (aM l d):=acO
theorem Tr.zero{s:Dk}(h:s.un=[]):Tr s s []:=⟨λ_=>rfl,λ_=>rfl,by rw[h];rfl,(adn _).symm,(adn _).symm,rfl,rfl,rfl,rfl,rfl,λ_ _ h=>h,λ_ _ h=>h⟩
theorem Tr.write{s s1:Dk}{os:Ops}(g:Tr s s1 os)(t:Nat)(x:Int)(o:By)(en:¬ s1.fq):Tr s (s1.wrote t x o) (os++[some (x,o)]) where
 lt k:=by rw[mJ,zN,kS];unfold upd;rw[g.lt]
 ke k:=by rw[jW];exact g.ke k
 un:=by
  rw[jW]
  show(s1.un++[(t,x,o)]).map (·.2)=(sp os).2++[(x,o)]
  rw[aaq,g.un];rfl
 w:=by show s1.w+1=_;rw[g.w,zN,aag,aeF];rfl
 f:=by rw[Qs];exact g.f
 B:=g.B
 S:=g.S
 dk:=g.dk
 la:=g.la
 lf:=g.lf
 nw k e _:=adf.mp λh=>en ⟨k,g.la.trans e,h⟩
 nf:=g.nf
theorem Tr.flush{s s1:Dk}{os:Ops}(g:Tr s s1 os)(u:Nat)(en:¬ s1.cy):Tr s (s1.fl u) (os++[none]) where
 lt k:=by rw[o7];exact g.lt k
 ke k:=by
  rw[jW]
  show bytesAt s1.S (dR s1.un s1.ke) k=aM ((sp os).1++(sp os).2) _ k
  rw[oY,g.un,zP]
  exact jV g.ke _ k
 un:=by rw[jW];rfl
 w:=by rw[o7];exact g.w
 f:=by show s1.f+1=_;rw[g.f,zO,aeF];rfl
 B:=g.B
 S:=g.S
 dk:=g.dk
 la:=g.la
 lf:=g.lf
 nw:=g.nw
 nf k e _:=adf.mp λh=>en ⟨k,g.lf.trans e,h⟩
theorem Tr.iB{s s1:Dk}{os:Ops}(g:Tr s s1 os):s1.un.length=(sp os).2.length:=by
 rw[<-g.un,aad]
def s9(s:Dk)(o:Option (Int×By)):Prop:=match o with
 |some _=>s.fq
 |none=>s.cy
def bY(s:Dk)(F:List Cl)(X:Xp)(pre os:Ops):Prop:=∀ a o b,os=a++o::b->∀ s' H',bR s'->Tr s s' (pre++a)->s9 s' o->Holds H' (av s'.eJ++F)->X 95 H'
theorem bY.left{s:Dk}{F:List Cl}{X:Xp}{pre os os':Ops}(x:bY s F X pre (os++os')):bY s F X pre os:=λa o b e=>x a o (b++os') (by rw[e,aaf];rfl)
theorem bY.right{s:Dk}{F:List Cl}{X:Xp}{pre os os':Ops}(x:bY s F X pre (os++os')):bY s F X (pre++os) os':=λa o b e s' H' ok g=>x (os++a) o b (by rw[e,aaf]) s' H' ok (by rw[<-aaf];exact g)
theorem bY.one{s s1:Dk}{F:List Cl}{X:Xp}{pre os:Ops}{o:Option (Int×By)}(x:bY s F X pre (o::os))(ok:bR s1)(g:Tr s s1 pre)(b:s9 s1 o):∀ H',Holds H' (av s1.eJ++F)->X 95 H':=λH' h=>x [] o os rfl s1 H' ok (by rw[aar];exact g) b h
theorem Rest.fl{s:Dk}{c:Ch}{u:Nat}(r:Rest s c):Rest (s.fl u) c:=
 ⟨⟨r.ok.dk.fl,⟨r.ok.ak.nd,r.ok.ak.r,r.ok.ak.z,r.ok.ak.p⟩,r.ok.clean,r.ok.bn,r.ok.key,r.ok.len,r.ok.most,r.ok.size⟩,r.idle⟩
structure cC(s:Dk)(c:Ch)(s1:Dk)(c1:Ch)(os:Ops)(v:Int->By):Prop where
 tr:Tr s s1 os
 rest:Rest s1 c1
 view:∀ k,Lite.view s1 c1 k=v k
 pin:∀ k,bS c1 k=bS c k
 ca:c1.ca=c.ca
 most:c1.most=c.most
section
variable {s s1:Dk} {c c1:Ch} {j:Jn} {os:Ops} {v:Int->By} {F:List Cl} {H:Hp} {n:Nat} {Q:Qh} {X:Xp}
theorem cC.zero(r:Rest s c)(h:s.un=[]):cC s c s c [] (Lite.view s c):=⟨Tr.zero h,r,λ_=>rfl,λ_=>rfl,rfl,rfl⟩
theorem cC.jb(g:cC s c s1 c1 os v)(f:fL c):fL c1:=by
 obtain⟨ns,h1,h2⟩:=f
 exact⟨ns,by rw[g.most];exact h1,λk hk=>h2 k (by rwa [<-g.pin])⟩
theorem cC.congr{v':Int->By}(g:cC s c s1 c1 os v)(e:∀ k,v k=v' k):cC s c s1 c1 os v':=⟨g.tr,g.rest,λk=>(g.view k).trans (e k),g.pin,g.ca,g.most⟩
theorem iC(h:Holds H (DC s1 c1 F))(g:cC s c s1 c1 os v):H[c.ca]? =some (eX s1 c1):=by rw[<-g.ca];exact bF h
theorem bY.frame{E:List Cl}{pre:Ops}(x:bY s F X pre os):bY s (E++F) X pre os:=λa o b e s' H' ok g bl h=>x a o b e s' H' ok g bl (Holds.sub h (abj (aaM _) (aaG _ _)))
theorem cC.wb(g:cC s c s1 c1 os v)(hw:0<=s.w∧s.w<=900)(hl:(bw os).length<=100):0<=s1.w∧s1.w<=1000:=by
 rw[g.tr.w]
 exact⟨agG hw.1 (aaL _),ajr hw.2 (abg.mpr hl)⟩
theorem zQ(h:Holds H (DC s1 c1 F))(g:cC s c s1 c1 os v)(f:fL c){x:Int}(h1:0<=x)(h2:x<s.B)(q:∀ H' c2,cC s c s1 c2 os v->Holds H' (DC s1 c2 F)->Q (.bytes (v x)) H'):Cq (Rn 4 n (.ah 404) [.ref c.ca,.int x] H) Q X:=by
 rw[<-g.ca]
 refine y8 h g.rest (g.jb f) h1 (by rw[g.tr.B];exact h2) λH c2 r2 e ca mo h=>?_
 rw[g.view]
 exact q H c2 ⟨g.tr,r2,λk=>(e k).1.trans (g.view k),λk=>(e k).2.trans (g.pin k),ca.trans g.ca,mo.trans g.most⟩ h
theorem ta(h:Holds H (DC s1 c1 F))(g:cC s c s1 c1 os v)(f:fL c){x:Int}{o:By}{rest:Ops}(h1:0<=x)(h2:x<s.B)(ho:(o.length:Int)=s.S)(hu:(sp os).2.length<=100)(hw:0<=s1.w∧s1.w<=1000)(y:bY s F X os (some (x,o)::rest))
  (q:∀ H' s2 c2,cC s c s2 c2 (os++[some (x,o)]) (upd v x o)->Holds H' (DC s2 c2 F)->Q .none H'):Cq (Rn 4 n (.ah 411) [.ref c.ca,.int x,.bytes o] H) Q X:=by
 rw[<-g.ca]
 exact y9 h g.rest (g.jb f) h1 (by rw[g.tr.B];exact h2) (by rw[g.tr.S];exact ho) (by rw[g.tr.iB];exact aba hu (by decide)) (λ_=>adn s1.w▸oZ (k:=0) hw (abh _)) (λb=>y.one g.rest.ok.dk g.tr b) λen H t c2 r2 e ca mo h=>
  q H _ c2 ⟨g.tr.write t x o en,r2,λk=>by rw[(e k).1,g.view];rfl,λk=>(e k).2.trans (g.pin k),ca.trans g.ca,mo.trans g.most⟩ h
theorem tb(h:Holds H (DC s1 c1 F))(g:cC s c s1 c1 os v){rest:Ops}(hu:(sp os).2.length<=100)(hw:0<=s1.w∧s1.w<=1000)(y:bY s F X os (none::rest))
  (q:∀ H' s2,cC s c s2 c1 (os++[none]) v->Holds H' (DC s2 c1 F)->Q .none H'):Cq (Rn 3 n (.ah 397) [.ref c.ca] H) Q X:=by
 rw[<-g.ca]
 exact sC h g.rest.ok.dk (aaJ (by rw[g.tr.iB];exact aah hu (by decide))) (λ_=>adn s1.w▸oZ (k:=0) hw (abh _)) (λb=>y.one g.rest.ok.dk g.tr b) λen H u h=>
  q H _ ⟨g.tr.flush u en,g.rest.fl,g.view,g.pin,g.ca,g.most⟩ h
end
def je(v:Int->By)(p:Int)(ns:List Int)(i:Nat)(k:Int):By:=if p<=k∧k<p+i then v (ns.getD (k-p).toNat 0)else v k
theorem Qt(v:Int->By)(p:Int)(ns:List Int)(k:Int):je v p ns 0 k=v k:=if_neg (by lia)
theorem zR{v:Int->By}{p:Int}{ns:List Int}{i:Nat}{k:Int}(h:k<p∨p+i<=k):je v p ns i k=v k:=if_neg (by lia)
theorem Qu{v:Int->By}{p:Int}{ns:List Int}{i:Nat}(k:Int):upd (je v p ns i) (p+i) (v (ns.getD i 0)) k=je v p ns (i+1) k:=by
 unfold upd je
 by_cases h:k=p+i
 ·rw[if_pos h,if_pos (by lia)]
  have:(k-p).toNat=i:=by lia
  rw[this]
 ·rw[if_neg h]
  by_cases h2:p<=k∧k<p+i
  ·rw[if_pos h2,if_pos (by lia)]
  ·rw[if_neg h2,if_neg (by lia)]
theorem zS{l:List Int}{i:Nat}{x:V}(h:(l.map V.int)[i]? =some x):∃ k,x=.int k∧l[i]? =some k:=by
 rw[abu]at h
 obtain⟨k,hk,rfl⟩:=aaR.mp h
 exact⟨k,rfl,hk⟩
theorem zT{α:Type}(f:Nat->α){i n:Nat}(h:i<n):∃ B,(aaw n).map f=(aaw i).map f++f i::B:=by
 refine⟨((aaw n).map f).drop (i+1),?_⟩
 have e:(aaw i).map f=((aaw n).map f).take i:=by rw[<-agO,List.take_range,acp (acR h)]
 have hl:i<((aaw n).map f).length:=by rw[aad,aap];exact h
 rw[e,show f i::((aaw n).map f).drop (i+1)=((aaw n).map f).drop i from by rw[<-abx (h:=hl),adO,abl],ahl]
def dF(st:Int)(v:Int->By)(ns:List Int)(i:Nat):Ops:=(aaw i).map λ(k:Nat)=>some (st+1+(k:Int),v (ns.getD k 0))
def dT(v:Int->By)(ns:List Int)(i:Nat):Ops:=(aaw i).map λ(k:Nat)=>some (ns.getD k 0,v (ns.getD k 0))
theorem zU{α:Type}(f:Nat->α)(i:Nat):(aaw (i+1)).map f=(aaw i).map f++[f i]:=by rw[adz,aaq];rfl
def jf(os:Ops):Prop:=∀ o∈os,o.isSome=true
theorem mU:∀ (l os:Ops),jf l->sp (os++l)=((sp os).1,(sp os).2++bw l)∧(bw l).length=l.length
 | [],os,_=>⟨by rw[aar];exact Prod.ext rfl (aar _).symm,rfl⟩
 |o::l,os,h=>by
  cases o with
  |none=>exact absurd (h none (.head _)) (by decide)
  |some w=>
   obtain⟨e1,e2⟩:=mU l (os++[some w]) λo ho=>h o (.tail _ ho)
   rw[aaf,jW]at e1
   refine⟨e1.trans ?_,congrArg (·+1) e2⟩
   show((sp os).1,((sp os).2++[w])++bw l)=_
   rw[aaf];rfl
theorem fO(a b:Ops):bw (a++b)=bw a++bw b:=aeU
theorem zV(st:Int)(v:Int->By)(ns:List Int)(i:Nat):jf (dF st v ns i):=λo ho=>by
 obtain⟨k,_,rfl⟩:=aau.mp ho;rfl
theorem zW(v:Int->By)(ns:List Int)(i:Nat):jf (dT v ns i):=λo ho=>by
 obtain⟨k,_,rfl⟩:=aau.mp ho;rfl
theorem zX(st:Int)(v:Int->By)(ns:List Int)(i:Nat):(dF st v ns i).length=i:=by unfold dF;rw[aad,aap]
theorem zY(v:Int->By)(ns:List Int)(i:Nat):(dT v ns i).length=i:=by unfold dT;rw[aad,aap]
theorem te{os l:Ops}(h:jf l){m k:Nat}(hl:l.length<=m)(h1:(sp os).2.length+m<=k)(h2:(bw os).length+m<=k):(sp (os++l)).2.length<=k∧(bw (os++l)).length<=k:=by
 obtain⟨e1,e2⟩:=mU l os h
 rw[e1,fO,aag,aag,e2]
 exact⟨aah (aec hl _) h1,aah (aec hl _) h2⟩
structure tf(s:Dk)(j:Jn):Prop where
 a:0<=j.start
 b:j.start+j.size<=s.B
 l:(j.ns.length:Int)<j.size
 n:∀ k∈j.ns,aO (0<=k) (k<s.B) (k<j.start∨j.start+j.size<=k)
 m:j.ns.length<=40
section
variable {s s1:Dk} {c c1:Ch} {j:Jn} {os:Ops} {v:Int->By} {F:List Cl} {H:Hp} {n:Nat} {Q:Qh} {X:Xp}
theorem Qv(h:Holds H (aN c.ca j++DC s1 c1 F))(g:cC s c s1 c1 os v)(f:fL c)(lo:tf s j)(hz:∀ k,((v k).length:Int)=s.S)(hu:(sp os).2.length<=50)(ho:(bw os).length<=50)(hw:0<=s.w∧s.w<=900)
  (y:bY s F X os (dF j.start v j.ns j.ns.length++[none]))
  (q:∀ H' s2 c2,cC s c s2 c2 (os++(dF j.start v j.ns j.ns.length++[none])) (je v (j.start+1) j.ns j.ns.length)->Holds H' (aN c.ca j++DC s2 c2 F)->Q .none H'):
  Cq (Rn 5 n (.ah 187) [.ref j.jo] H) Q X:=by
 have hb:∀ i,i<=j.ns.length->(sp (os++dF j.start v j.ns i)).2.length<=100∧(bw (os++dF j.start v j.ns i)).length<=100:=λi hi=>
  te (zV _ _ _ _) (m:=50) (by rw[zX];exact aah hi (aah lo.m (by decide))) (adg hu 50) (adg ho 50)
 rw[JU]
 refine Cq.fin<|ag<|jP (a:=j.nums) (xs:=j.ns.map V.int) (λi st=>gf λx y z s2 c2=>cB (st.lo=[some (.ref j.jo),x,y,z]) (i<=j.ns.length) (cC s c s2 c2 (os++dF j.start v j.ns i) (je v (j.start+1) j.ns i)) (Holds st.H (aN c.ca j++DC s2 c2 F))) (aaJ (by rw[aad];exact aah lo.m (by decide)))
  (aw rfl (aU h) (aS (by decide)) rfl rfl ⟨rfl,gC h,_,_,_,s1,c1,rfl,abh _,(show cC s c s1 c1 (os++[]) v by rw[aar];exact g).congr λk=>(Qt _ _ _ k).symm,h⟩) (λi st I=>?_) (λi x st hx I=>?_) λst I=>?_
 ·obtain⟨x,y,z,s2,c2,_,_,_,h⟩:=I
  exact gC h
 ·obtain⟨x1,y1,z1,s2,c2,e1,_,g,h⟩:=I
  obtain⟨lo',H⟩:=st
  subst e1
  obtain⟨x,rfl,hx2⟩:=zS hx
  have hi:i<j.ns.length:=(aan.mp hx2).1
  have hg:j.ns.getD i 0=x:=by rw[aat,hx2];rfl
  have hlog:=lo.n x (abw hx2)
  have l3:=hlog.3;have la:=lo.a;have lb:=lo.b;have ll:=lo.l
  have h:=h.app [O.tuple [.int i,.int x]]
  refine d6 fX<|aF<|aF<|ip λQ' kq=>?_
  generalize H++[O.tuple [.int i,.int x]]=H at h
  have hD:=cL h
  refine ag<|bh<|aW mG rfl rfl<|aw rfl (aU h) (aS (by decide)) rfl rfl ⟨rfl,iC hD g,au ?_⟩
  refine aZ<|aZ<|aw rfl (aU h) (aS (by decide)) rfl rfl<|aq<|cK<|aj rfl<|cK<|au ?_
  refine aW oF rfl rfl<|aw rfl (aU h) (aS (by decide)) rfl rfl ⟨rfl,iC hD g,ba rfl<|zQ hD g f hlog.1 hlog.2 λH c2 g h=>ar ?_⟩
  rw[zR (by lia)]
  obtain⟨B,eB⟩:=zT (λ(k:Nat)=>(some (j.start+1+(k:Int),v (j.ns.getD k 0)):Option (Int×By))) hi
  have y':bY s F X (os++dF j.start v j.ns i) (some (j.start+1+(i:Int),v x)::(B++[none])):=by
   refine bY.right ?_
   rw[<-hg,<-acV,<-aaf]
   exact(show dF j.start v j.ns j.ns.length=dF j.start v j.ns i++some (j.start+1+(i:Int),v (j.ns.getD i 0))::B from eB)▸y
  refine ta h g f (by lia) (by lia) (hz x) (hb i (acR hi)).1 (g.wb hw (hb i (acR hi)).2) y'.frame λH s3 c3 g h=>?_
  refine kq .next _ ⟨_,_,_,s3,c3,rfl,hi,?_,eM h⟩
  rw[<-hg,aaf]at g
  have g:=g.congr Qu
  unfold dF
  rw[zU]
  exact g
 ·obtain⟨x1,y1,z1,s2,c2,e1,_,g,h⟩:=I
  obtain⟨lo',H⟩:=st
  subst e1
  rw[aad]at g
  have hD:=cL h
  unfold bQ
  exact ag<|bh<|aW mF rfl rfl<|aw rfl (aU h) (aS (by decide)) rfl rfl ⟨rfl,iC hD g,ar<|tb hD g (hb _ (aaZ _)).1 (g.wb hw (hb _ (aaZ _)).2) y.right.frame λH s3 g h=>q H s3 c2 (by rw[<-aaf];exact g) (eM h)⟩
end
theorem Qw{ns:List Int}{S:Int}(h:4*((ns.length:Int)+1)<=S):((ck ns S).length:Int)=S:=by
 unfold ck
 rw[aag,sR,acE,abi,yf h]
 exact oq (abX (aaL (4*(ns.length+1))) h)
section
variable {s s1:Dk} {c c1:Ch} {j:Jn} {os:Ops} {v:Int->By} {F:List Cl} {H:Hp} {n:Nat} {Q:Qh} {X:Xp}
theorem zZ{a:Nat}{ns:List Int}(h:Holds H (aN c.ca j++DC s1 c1 F))(ha:(a,O.list (ns.map V.int))∈aN c.ca j++DC s1 c1 F)(g:cC s c s1 c1 os v)(f:fL c)(hn:∀ k∈ns,0<=k)(hl:4*((ns.length:Int)+1)<=s.S)(hS:s.S<=1000)(h1:0<=j.start)(h2:j.start<s.B)
  (hu:(sp os).2.length<=99) (ho:(bw os).length<=99) (hw:0<=s.w∧s.w<=900) (y:bY s F X os [some (j.start,ck ns s.S),none])
  (q:∀ H' s2 c2,cC s c s2 c2 (os++[some (j.start,ck ns s.S),none]) (upd v j.start (ck ns s.S))->Holds H' (aN c.ca j++DC s2 c2 F)->Q .none H'):
  Cq (Rn 5 n (.ah 194) [.ref j.jo,.ref a] H) Q X:=by
 have hz:c1.size=s.S:=by rw[<-g.tr.S];exact g.rest.ok.size
 rw[xK]
 refine Cq.fin<|ag<|bh<|aW mG rfl rfl<|aw rfl (aU h) (aS (by decide)) rfl rfl ⟨rfl,iC (cL h) g,au<|aw rfl (aU h) (aS (by decide)) rfl rfl<|au ?_⟩
 refine aR<|au<|aj rfl<|au<|af<|aw rfl (aU h) (aS (by decide)) rfl rfl<|gS (iC (cL h) g) (bU (by decide)) rfl rfl<|ar<|gy rfl ?_
 rw[hz]
 refine zo h ha hn hl hS λH h=>ar ?_
 refine ta (cL h) g f h1 h2 (Qw hl) (ade hu) (g.wb hw (ade ho)) y.frame λH s2 c2 g h=>?_
 have y2:bY s F X (os++[some (j.start,ck ns s.S)]) [none]:=bY.right y
 have e:(sp (os++[some (j.start,ck ns s.S)])).2.length<=100∧(bw (os++[some (j.start,ck ns s.S)])).length<=100:=
  te (l:=[some (j.start,ck ns s.S)]) (λo ho=>by rw[aaP.mp ho];rfl) (aaZ 1) (abE hu) (abE ho)
 unfold bQ
 exact ag<|bh<|aW mF rfl rfl<|aw rfl (aU (eM h)) (aS (by decide)) rfl rfl ⟨rfl,iC h g,ar<|tb h g e.1 (g.wb hw e.2) y2.frame λH s3 g h=>q H s3 c2 (by rw[aaf]at g;exact g) (eM h)⟩
theorem Qx(h:Holds H (aN c.ca j++DC s1 c1 F))(g:cC s c s1 c1 os v)(f:fL c)(lo:tf s j)(hz:∀ k,k∈j.ns->((v k).length:Int)=s.S)(hu:(sp os).2.length<=50)(ho:(bw os).length<=50)(hw:0<=s.w∧s.w<=900)
  (y:bY s F X os (dT v j.ns j.ns.length++[none]))
  (q:∀ H' s2 c2,cC s c s2 c2 (os++(dT v j.ns j.ns.length++[none])) v->Holds H' (aN c.ca j++DC s2 c2 F)->Q .none H'):
  Cq (Rn 5 n (.ah 201) [.ref j.jo,.ref j.nums,.bool false] H) Q X:=by
 have hb:∀ i,i<=j.ns.length->(sp (os++dT v j.ns i)).2.length<=100∧(bw (os++dT v j.ns i)).length<=100:=λi hi=>
  te (zW _ _ _) (m:=50) (by rw[zY];exact aah hi (aah lo.m (by decide))) (adg hu 50) (adg ho 50)
 rw[xM]
 refine Cq.fin<|ag<|jP (a:=j.nums) (xs:=j.ns.map V.int) (λi st=>gf λx y z s2 c2=>cB (st.lo=[some (.ref j.jo),some (.ref j.nums),some (.bool false),x,y,z,none]) (i<=j.ns.length) (cC s c s2 c2 (os++dT v j.ns i) v) (Holds st.H (aN c.ca j++DC s2 c2 F))) (aaJ (by rw[aad];exact aah lo.m (by decide)))
  (aj rfl ⟨rfl,gC h,_,_,_,s1,c1,rfl,abh _,(show cC s c s1 c1 (os++[]) v by rw[aar];exact g),h⟩) (λi st I=>?_) (λi x st hx I=>?_) λst I=>?_
 ·obtain⟨x,y,z,s2,c2,_,_,_,h⟩:=I
  exact gC h
 ·obtain⟨x1,y1,z1,s2,c2,e1,_,g,h⟩:=I
  obtain⟨lo',H⟩:=st
  subst e1
  obtain⟨x,rfl,hx2⟩:=zS hx
  have hi:i<j.ns.length:=(aan.mp hx2).1
  have hg:j.ns.getD i 0=x:=by rw[aat,hx2];rfl
  have hm:=abw hx2
  have hlog:=lo.n x hm
  have h:=h.app [O.tuple [.int i,.int x]]
  refine d6 fX<|aF<|aF<|ip λQ' kq=>?_
  generalize H++[O.tuple [.int i,.int x]]=H at h
  have hD:=cL h
  refine ag<|aY<|aW oF rfl rfl<|aw rfl (aU h) (aS (by decide)) rfl rfl ⟨rfl,iC hD g,au<|gR<|af<|aj rfl<|du ?_⟩
  refine aj rfl<|ar<|zQ hD g f hlog.1 hlog.2 λH c2 g hD=>aF ?_
  have h:=eM hD
  obtain⟨B,eB⟩:=zT (λ(k:Nat)=>(some (j.ns.getD k 0,v (j.ns.getD k 0)):Option (Int×By))) hi
  have y':bY s F X (os++dT v j.ns i) (some (x,v x)::(B++[none])):=by
   refine bY.right ?_
   rw[<-hg,<-acV,<-aaf]
   exact(show dT v j.ns j.ns.length=dT v j.ns i++some (j.ns.getD i 0,v (j.ns.getD i 0))::B from eB)▸y
  refine ag<|bh<|aW mG rfl rfl<|aw rfl (aU h) (aS (by decide)) rfl rfl ⟨rfl,iC hD g,ba rfl ?_⟩
  refine ta hD g f hlog.1 hlog.2 (hz x hm) (hb i (acR hi)).1 (g.wb hw (hb i (acR hi)).2) y'.frame λH s3 c3 g h=>?_
  refine kq .next _ ⟨_,_,_,s3,c3,rfl,hi,?_,eM h⟩
  rw[aaf]at g
  have g:=g.congr (v':=v) λk=>by
   unfold upd
   split
   ·rename_i e;rw[e]
   ·rfl
  unfold dT
  rw[zU,hg]
  exact g
 ·obtain⟨x1,y1,z1,s2,c2,e1,_,g,h⟩:=I
  obtain⟨lo',H⟩:=st
  subst e1
  rw[aad]at g
  have hD:=cL h
  unfold bQ
  exact ag<|bh<|aW mF rfl rfl<|aw rfl (aU h) (aS (by decide)) rfl rfl ⟨rfl,iC hD g,ar<|tb hD g (hb _ (aaZ _)).1 (g.wb hw (hb _ (aaZ _)).2) y.right.frame λH s3 g h=>q H s3 c2 (by rw[<-aaf];exact g) (eM h)⟩
end
section
variable {s:Dk} {c:Ch} {j:Jn} {F:List Cl} {H:Hp} {n:Nat} {Q:Qh} {X:Xp} {l1 l2:List Bf} {b b':Bf}
theorem Qy(nd:((l1++b::l2).map (·.n)).Nodup)(e:b'.n=b.n)(k:Int):(l1++b'::l2).find? (λx=>x.n==k)=if k=b.n then some b' else (l1++b::l2).find? λx=>x.n==k:=by
 have nd':((l1++b'::l2).map (·.n)).Nodup:=by
  rw[aaq,aaH]at nd ⊢
  rw[e];exact nd
 by_cases hk:k=b.n
 ·rw[if_pos hk,hk,<-e];exact i9 nd'
 ·rw[if_neg hk,abF,abF,acN,acN]
  have h1:(b'.n==k)=false:=by rw[e];simpa using acm hk
  have h2:(b.n==k)=false:=by simpa using acm hk
  rw[h1,h2]
theorem Qz(r:Rest s c)(e:c.ak=l1++b::l2)(e1:b'.n=b.n)(e2:b'.a=b.a)(e3:b'.x=b.x)(e4:b'.h=0)(ep:0<=b'.p)(cl:b'.p=0->b.x=aI s b.n):
  Rest s (c.with (l1++b'::l2))∧∀ k,view s (c.with (l1++b'::l2)) k=view s c k∧bS (c.with (l1++b'::l2)) k=if k=b.n then b'.p else bS c k:=by
 have hm:b∈c.ak:=by rw[e];exact aac _ (.head _)
 have nd:=r.ok.ak.nd
 rw[e]at nd
 have fs:=Qy (l1:=l1) (l2:=l2) nd e1
 have fm:=i9 (l1:=l1) (l2:=l2) (b:=b) nd
 refine⟨⟨r.ok.swap e e1 e2 (by rw[e3];exact r.ok.ak.z b hm) ep (λhp _=>by rw[e3,e1];exact cl hp),λy hy=>?_⟩,λk=>⟨?_,?_⟩⟩
 ·rcases aav.mp hy with hy |hy
  ·exact r.idle y (by rw[e];exact aao _ hy)
  ·cases hy with
   |head=>exact e4
   |tail _ hy=>exact r.idle y (by rw[e];exact aac _ (.tail _ hy))
 ·show(match (l1++b'::l2).find? λb=>b.n==k with |some b=>b.x |none=>aI s k)=match c.ak.find? λb=>b.n==k with |some b=>b.x |none=>aI s k
  rw[fs k,e]
  by_cases hk:k=b.n
  ·rw[if_pos hk,hk,fm];exact e3
  ·rw[if_neg hk]
 ·show(match (l1++b'::l2).find? λb=>b.n==k with |some b=>b.p |none=>0)=if k=b.n then b'.p else match c.ak.find? λb=>b.n==k with |some b=>b.p |none=>0
  rw[fs k,e]
  by_cases hk:k=b.n
  ·rw[if_pos hk,if_pos hk]
  ·rw[if_neg hk,if_neg hk]
theorem QA(h:Holds H (DC s c F))(r:Rest s c){x:Int}(hv:view s c x=aI s x)(hp:bS c x≠0)
  (q:∀ H' c',Rest s c'->(∀ k,view s c' k=view s c k∧bS c' k=if k=x then bS c x-1 else bS c k)->c'.ca=c.ca->c'.most=c.most->Holds H' (DC s c' F)->Q .none H'):Cq (Rn 1 n (.ah 383) [.ref c.ca,.int x] H) Q X:=by
 cases ef:c.ak.find? (λb=>b.n==x)with
 |none=>
  have:bS c x=0:=by delta bS;rw[ef]
  exact absurd this hp
 |some b=>
  obtain⟨hn,l1,l2,e⟩:=yU ef
  have ep:bS c x=b.p:=by delta bS;rw[ef]
  have ev:view s c x=b.x:=by delta view;rw[ef]
  have hm:b∈c.ak:=by rw[e];exact aac _ (.head _)
  have h0:=r.ok.ak.p b hm
  rw[ep]at hp q
  subst hn
  refine Qo h r.ok e hp λH h=>?_
  obtain⟨r2,e2⟩:=Qz (b':=b.pin (b.p-1)) r e rfl rfl rfl (r.idle b hm) (by show 0<=b.p-1;lia) (λ_=>by rw[<-ev];exact hv)
  exact q H _ r2 e2 rfl rfl h
end
def Jn.fresh(j:Jn)(u1 u2:Nat):Jn:={j with nums:=u1,fG:=u2,sL:=j.sL+1,ns:=[],nt:=[]}
def Jn.mV(j:Jn)(u1:Nat):Jn:={j with nums:=u1,ns:=[]}
def Jn.o8(j:Jn)(u1 u2:Nat):Jn:={j with nums:=u1,fG:=u2,ns:=[],nt:=[]}
section
variable {j:Jn} {H:Hp}
theorem QB{ca u:Nat}{G:List Cl}(h:Holds H ((u,.list [])::(aN ca j++G))):Holds (H.set j.jo (ja ca (j.mV u))) (aN ca (j.mV u)++G):=by
 have h1:=Holds.dZ h (ja ca (j.mV u))
 refine Holds.sub (h1.perm (c':=(j.jo,ja ca (j.mV u))::(u,.list [])::(j.nums,.list (j.ns.map V.int))::(j.fG,.dict j.nt)::G) (aaS _ _ _)) ?_
 exact .cons_cons _ (.cons_cons _ (.cons _ (aaM _)))
theorem QC{ca u v:Nat}{G:List Cl}(h:Holds H ((v,.dict [])::(aN ca (j.mV u)++G))):Holds (H.set j.jo (ja ca (j.o8 u v))) (aN ca (j.o8 u v)++G):=by
 have h1:=Holds.dZ h (ja ca (j.o8 u v))
 refine Holds.sub (h1.perm (c':=(j.jo,ja ca (j.o8 u v))::(u,.list [])::(v,.dict [])::(j.fG,.dict j.nt)::G) ?_) ?_
 ·refine(aaS _ _ _).trans (aaU _ (aaS _ _ _))
 ·exact .cons_cons _ (.cons_cons _ (.cons_cons _ (.cons _ (aaM _))))
end
theorem mW{k:Int}{x:By}:∀ {l:Ws} {e:Int->By},(∀ q∈l,q.1=k->q.2=x)->((∃ q∈l,q.1=k)∨e k=x)->aM l e k=x
 | [],_,_,h=>h.elim (λ⟨_,m,_⟩=>nomatch m) id
 |q::l,e,h,h0=>mW (l:=l) (e:=upd e q.1 q.2) (λr hr=>h r (.tail _ hr)) (by
  by_cases hk:q.1=k
  ·refine .inr ?_
   unfold upd
   rw[if_pos hk.symm]
   exact h q (.head _) hk
  ·rcases h0 with ⟨r,hr,e⟩ |h0
   ·cases hr with
    |head=>contradiction
    |tail _ hr=>exact .inl ⟨r,hr,e⟩
   ·refine .inr ?_
    unfold upd
    rw[if_neg (acm hk)]
    exact h0)
theorem z0{q:Int×By}{os:Ops}:q∈bw os↔some q∈os:=by
 unfold bw
 rw[List.mem_filterMap]
 exact⟨λ⟨_,m,e⟩=>e▸m,λm=>⟨_,m,rfl⟩⟩
def cw(st S:Int)(v:Int->By)(ns:List Int):Ops:=(dF st v ns ns.length++[none])++([some (st,ck ns S),none]++((dT v ns ns.length++[none])++[some (st,ck [] S),none]))
theorem QD{st S:Int}{v:Int->By}{ns:List Int}{q:Int×By}(h:some q∈cw st S v ns):(st<=q.1∧q.1<=st+ns.length)∨(q.1∈ns∧q.2=v q.1):=by
 have hl:=aaL ns.length
 have own:∀ {b},some q∈[some (st,b),none]->(st<=q.1∧q.1<=st+ns.length)∨(q.1∈ns∧q.2=v q.1):=λh=>by
  rcases acB.mp h with e |e
  ·have e:=congrArg aei (aae.inj e)
   dsimp only at e
   exact .inl (by lia)
  ·exact nomatch aaP.mp e
 rcases aav.mp h with h |h
 ·rcases aav.mp h with h |h
  ·obtain⟨k,hk,e⟩:=aau.mp h
   have hk:=abm.mp hk
   have e:=congrArg aei (aae.inj e)
   dsimp only at e
   exact .inl (by lia)
  ·exact nomatch aaP.mp h
 rcases aav.mp h with h |h
 ·exact own h
 rcases aav.mp h with h |h
 ·rcases aav.mp h with h |h
  ·obtain⟨k,hk,e⟩:=aau.mp h
   obtain rfl:=aae.inj e
   exact .inr ⟨getD_mem (abm.mp hk),rfl⟩
  ·exact nomatch aaP.mp h
 ·exact own h
theorem QE{v:Int->By}{ns:List Int}{k:Int}(h:k∈ns):some (k,v k)∈dT v ns ns.length:=by
 obtain⟨i,hi⟩:=abG h
 exact aau.mpr ⟨i,abm.mpr (aan.mp hi).1,by rw[aat,hi];rfl⟩
theorem th{st z S:Int}{v d:Int->By}{ns:List Int}(hl:(ns.length:Int)<z){k:Int}(hk:k<st∨st+z<=k)(hD:k ∉ ns->v k=d k):aM (bw (cw st S v ns)) d k=v k:=mW (λq hq e=>by
  rcases QD (z0.mp hq)with h |h
  ·lia
  ·rw[h.2,e]) (by
  by_cases m:k∈ns
  ·exact .inl ⟨(k,v k),z0.mpr (aac _ (aac _ (aao _ (aao _ (QE m))))),rfl⟩
  ·exact .inr (hD m).symm)
theorem ti{os l:Ops}(h:jf l):(sp (os++(l++[none]))).2=[]∧(bw (os++(l++[none]))).length=(bw os).length+l.length:=by
 rw[<-aaf,jW,o7,fO,aag,(mU l os h).2]
 exact⟨rfl,rfl⟩
theorem QF{v v':Int->By}{ns:List Int}(h:∀ k∈ns,v k=v' k):dT v ns ns.length=dT v' ns ns.length:=abJ λi hi=>by rw[h _ (getD_mem (abm.mp hi))]
section
variable {s:Dk} {c:Ch} {j:Jn} {F:List Cl} {H:Hp} {n:Nat} {Q:Qh} {X:Xp}
theorem QG(h:Holds H (aN c.ca j++DC s c F))(r:Rest s c)(f:fL c)(lo:tf s j)(hS:4*((j.ns.length:Int)+1)<=s.S)(hS2:s.S<=1000)(nd:j.ns.Nodup)(hpin:∀ k,bS c k=if k∈j.ns then 1 else 0)(hD:∀ k,k ∉ j.ns->view s c k=aI s k)(hz:∀ k,((view s c k).length:Int)=s.S)(hu:s.un=[])(hw:0<=s.w∧s.w<=900)
  (y:bY s F X [] (cw j.start s.S (view s c) j.ns))
  (q:∀ H' s' c' u1 u2,Tr s s' (cw j.start s.S (view s c) j.ns)->Rest s' c'->c'.ca=c.ca->c'.most=c.most->Holds H' (aN c'.ca (j.fresh u1 u2)++DC s' c' F)->Q .none H'):
  Cq (Rn 6 n (.ah 180) [.ref j.jo] H) Q X:=by
 have hm:=lo.m
 have ns0:∀ k∈j.ns,0<=k:=λk hk=>(lo.n k hk).1
 have la:=lo.a;have lb:=lo.b;have ll:=lo.l
 have hsB:j.start<s.B:=by lia
 have l1:∀ (b:By),jf [some (j.start,b)]:=λb o ho=>by rw[aaP.mp ho];rfl
 have y2:=bY.right y
 have y3:=bY.right y2
 have y4:=bY.right y3
 obtain⟨a1,b1⟩:=ti (os:=[]) (zV j.start (view s c) j.ns j.ns.length)
 rw[zX]at b1
 obtain⟨a2,b2⟩:=ti (os:=[]++(dF j.start (view s c) j.ns j.ns.length++[none])) (l1 (ck j.ns s.S))
 obtain⟨a3,b3⟩:=ti (os:=([]++(dF j.start (view s c) j.ns j.ns.length++[none]))++[some (j.start,ck j.ns s.S),none]) (zW (view s c) j.ns j.ns.length)
 rw[zY]at b3
 have b1:(bw ([]++(dF j.start (view s c) j.ns j.ns.length++[none]))).length=j.ns.length:=b1.trans (agc _)
 have b2:(bw (([]++(dF j.start (view s c) j.ns j.ns.length++[none]))++[some (j.start,ck j.ns s.S),none])).length=j.ns.length+1:=b2.trans (by rw[b1];rfl)
 rw[b2]at b3
 rw[JP]
 refine Cq.fin<|ag<|bh<|aW Qi rfl rfl<|aj rfl ⟨rfl,aU h,ar<|Qv h (cC.zero r hu) f lo hz (abh _) (abh _) hw y.left λH s1 c1 g1 h=>?_⟩
 refine ag<|bh<|aW r9 rfl rfl<|aj rfl ⟨rfl,aU h,au<|aw rfl (aU h) (aS (by decide)) rfl rfl<|ar ?_⟩
 refine zZ (ns:=j.ns) h (.tail _ (.head _)) g1 f ns0 hS hS2 la hsB (by rw[a1];exact abh _) (by rw[b1];lia) hw y2.left λH s2 c2 g2 h=>?_
 refine ag<|bh<|aW yy rfl rfl<|aj rfl ⟨rfl,aU h,au<|aw rfl (aU h) (aS (by decide)) rfl rfl<|au<|aq<|ar ?_⟩
 have eV:∀ k∈j.ns,view s c k=upd (je (view s c) (j.start+1) j.ns j.ns.length) j.start (ck j.ns s.S) k:=λk hk=>by
  have:=(lo.n k hk).3
  unfold upd
  rw[if_neg (by lia),zR (by lia)]
 have eH:=QF eV
 rw[eH]at y3 y4 a3 b3
 refine Qx h g2 f lo (λk hk=>by rw[<-eV k hk];exact hz k) (by rw[show(sp (([]++(dF j.start (view s c) j.ns j.ns.length++[none]))++[some (j.start,ck j.ns s.S),none])).2=[] from a2];exact abh _) (by rw[b2];lia) hw y3.left λH s3 c3 g3 h=>?_
 refine ag<|bh<|aW r9 rfl rfl<|aj rfl ⟨rfl,aU h,au<|eU (c:=aN c.ca j++DC s3 c3 F)<|ar ⟨rfl,h,λH u h=>ar ?_⟩⟩
 refine zZ (ns:=[]) (F:=(u,.list [])::F) (push h) (aac _ (aac _ (aac _ (.head _)))) g3 f (λ_ z=>nomatch z) (by show 4*((0:Int)+1)<=s.S;lia) hS2 la hsB (by rw[a3];exact abh _) (by rw[b3];lia) hw (bY.frame (E:=[(u,.list [])]) y4) λH s4 c4 g4 h=>?_
 have h:=(pull (Y:=aN c.ca j) h).bg
 have G:Tr s s4 (cw j.start s.S (view s c) j.ns):=by
  have:=g4.tr
  rw[<-eH]at this
  unfold cw
  rw[aaf,aaf]at this
  exact this
 have hvd:∀ k∈j.ns,view s4 c4 k=aI s4 k:=λk hk=>by
  have h3:=(lo.n k hk).3
  rw[g4.view,G.lt,th ll (h3.imp id id) (λz=>absurd hk z)]
  show upd _ _ _ k=_
  unfold upd
  rw[if_neg (by lia)]
  exact(eV k hk).symm
 have g4p:∀ k,bS c4 k=bS c k:=g4.pin
 have g4r:=g4.rest
 have g4c:=g4.ca
 have g4m:=g4.most
 clear g1 g2 g3 g4 y y2 y3 y4 a1 a2 a3 b1 b2 b3 eV eH
 refine ag<|i8 (a:=j.nums) (xs:=j.ns.map V.int) (λvs st=>d9 λd e x c5=>j8 (j.ns=d++e) (vs=e.map V.int) (st.lo=[some (.ref j.jo),x]) (Rest s4 c5) (∀ k,view s4 c5 k=view s4 c4 k∧bS c5 k=if k∈e then 1 else 0) (c5.ca=c.ca) (c5.most=c.most) (Holds st.H (aN c5.ca j++DC s4 c5 F))) (aaJ (by rw[aad];exact aah hm (by decide)))
  (aw rfl (aU h) (aS (by decide)) rfl rfl ⟨rfl,gC h,[],j.ns,_,c4,rfl,rfl,rfl,g4r,λk=>⟨rfl,(g4p k).trans (hpin k)⟩,g4c,g4m,by rw[g4c];exact h⟩) (λvs st I=>?_) (λv vs st I=>?_) λst I=>?_
 ·obtain⟨d,e,x,c5,_,_,_,_,_,_,_,h⟩:=I
  exact gC h
 ·obtain⟨d,e,x,c5,e1,e2,e3,r5,e5,ca5,mo5,h⟩:=I
  obtain⟨lo',H⟩:=st
  subst e3
  cases e with
  |nil=>contradiction
  |cons y e=>
   (injection e2;subst_vars)
   have hD5:=cL h
   refine aF<|ag<|bh<|aW Qk rfl rfl<|aw rfl (aU h) (aS (by decide)) rfl rfl ⟨rfl,bF hD5,au<|aj rfl<|ar ?_⟩
   have hp1:bS c5 y=1:=by rw[(e5 y).2,if_pos (.head _)]
   refine QA hD5 r5 ((e5 y).1.trans (hvd y (by rw[e1];exact aac _ (.head _)))) (by rw[hp1];decide) λH c6 r6 e6 ca6 mo6 h=>?_
   refine⟨d++[y],e,_,c6,by rw[e1,aaf];rfl,rfl,rfl,r6,λk=>⟨(e6 k).1.trans (e5 k).1,?_⟩,ca6.trans ca5,mo6.trans mo5,eM (by rw[ca6];exact h)⟩
   rw[e1]at nd
   have nd2:=(aaI.mp (aaW.mp nd).2.1).1
   rw[(e6 k).2,hp1]
   by_cases hk:k=y
   ·rw[if_pos hk,if_neg (by rw[hk];exact nd2)];rfl
   ·rw[if_neg hk,(e5 k).2]
    by_cases hk2:k∈e
    ·rw[if_pos hk2,if_pos (.tail _ hk2)]
    ·rw[if_neg hk2,if_neg (λz=>(acB.mp z).elim hk hk2)]
 ·obtain⟨d,e,x,c5,e1,e2,e3,r5,e5,ca5,mo5,h⟩:=I
  obtain⟨lo',H⟩:=st
  subst e3
  refine ag<|aY<|eU (c:=aN c5.ca j++DC s4 c5 F)<|ar ⟨rfl,h,λH u h=>af<|aj rfl<|jK (h.on _ (.tail _ (.head _))) (aS (by decide)) rfl ?_⟩
  have h:=QB h
  refine ag<|aY<|d5 h λH u2 h=>af<|aj rfl<|jK (h.on _ (.tail _ (.head _))) (aS (by decide)) rfl ?_
  have h:=QC h
  refine ag<|ir (c':=aN c5.ca (j.fresh u u2)++DC s4 c5 F) rfl h.hd (aS (by decide)) rfl rfl (h.dt _) λH h=>?_
  exact q H s4 c5 u u2 G r5 ca5 mo5 h
end
section
variable {s:Dk} {c:Ch} {j:Jn} {F:List Cl} {H:Hp} {n:Nat} {Q:Qh} {X:Xp} {t:Nat}
theorem QH{k:Int}(h:Holds H (av s++F))(hk:0<=k)(q:∀ H',Holds H' (av {s with la:=some (s.w+k)}++F)->Q .none H'):Cq (Rn 1 n (.ah 502) [.ref s.dk,.int k] H) Q X:=by
 rw[Mv]
 refine Cq.fin<|ag<|dC<|af<|aj rfl<|bu<|aq<|fp (r:=false) (decide_eq_false (abI.mpr hk)) ⟨rfl,?_⟩
 exact ag<|aY<|aZ<|aw rfl (bq h) (bA (by decide)) rfl rfl<|aj rfl<|cK<|af<|aj rfl<|iu (c':=av {s with la:=some (s.w+k)}++F) (bq h) (bA (by decide)) rfl (h.dt _) λH h=>q H h
theorem QI(h:Holds H (aN c.ca j++DC s c F))(h0:j.calls≠0)(hn:j.ns≠[])
  (q1:j.calls≠1->∀ H',Holds H' (aN c.ca (j.bX (j.calls-1))++DC s c F)->Q .none H')
  (q2:j.calls=1->∀ H',Holds H' (aN c.ca (j.bX 0)++DC s c F)->Cq (Rn 6 n (.ah 180) [.ref j.jo] H') (λ_ H=>Q .none H) X):
  Cq (Rn 7 n (.ah 173) [.ref j.jo] H) Q X:=by
 rw[JE]
 refine Cq.fin<|ag<|dC<|af<|aw rfl (aU h) (aS (by decide)) rfl rfl<|bu<|aq<|gB (r:=false) (decide_eq_false h0) ⟨rfl,?_⟩
 refine ag<|sm (c':=aN c.ca (j.bX (j.calls-1))++DC s c F) rfl (aU h) (aS (by decide)) rfl rfl (h.dt _) λH h=>?_
 refine ag<|cR<|mE<|af<|aw rfl (aU (j:=j.bX (j.calls-1)) h) (aS (by decide)) rfl rfl<|bu<|aq<|gB (r:=decide (j.calls-1=0)) rfl ?_
 cases d2:decide (j.calls-1=0)with
 |false=>
  unfold yq
  refine fj ?_
  exact q1 (λz=>of_decide_eq_false d2 (by rw[z];rfl)) H h
 |true=>
  have d2:=of_decide_eq_true d2
  have e1:j.calls=1:=Int.sub_eq_zero.mp d2
  refine s6<|af<|aw rfl (aU (j:=j.bX (j.calls-1)) h) (aS (by decide)) rfl rfl<|sZ (xs:=j.ns) h (.tail _ (.head _)) λH h=>?_
  rw[decide_eq_false hn]
  rw[d2]at h
  exact ag<|bh<|aW Qg rfl rfl<|aj rfl ⟨rfl,aU (j:=j.bX 0) h,ar ((q2 e1 H h).mono (λ_ H q=>(show Wq (ax [] ⟨_,H⟩) (bQ [] (cP Q) X) X from fj (show Wq (ax [] ⟨_,H⟩) (cP Q) X from fj q))) λ_ _ q=>q)⟩
end
abbrev gX(a0 a1:Nat)(a2:Int)(a3 a4:Nat)(a5 a6 a7 a8:Option V):Lo:=[some (.ref a0),some (.ref a1),some (.int a2),some (.ref a3),some (.ref a4),a5,a6,a7,a8,none,none,none,none]
def cU(ns:List Int)(x:Int):List Int:=if x∈ns then ns else ns++[x]
theorem k8{ns:List Int}{x k:Int}:k∈cU ns x↔k=x∨k∈ns:=by
 unfold cU
 split
 ·rename_i m
  exact⟨.inr,λh=>h.elim (λe=>e▸m) id⟩
 ·rw[aav,aaP];exact Or.comm
structure jg(s:Dk)(c:Ch)(j:Jn)(ns:List Int)(v:Int->By):Prop where
 r:Rest s c
 view:∀ k,view s c k=v k
 pin:∀ k,bS c k=if k∈ns then 1 else 0
 mo:c.most=8
 jn:j.ns=ns
 js:j.start=1
 jz:j.size=4
 jm:j.most=3
 nt:∀ k,(j.nt.lookup k).isSome=decide (k∈ns)
 nl:j.nt.length<=ns.length
 nd:ns.Nodup
 l3:ns.length<=3
theorem jg.jb{s:Dk}{c:Ch}{j:Jn}{ns:List Int}{v:Int->By}(g:jg s c j ns v):fL c:=
 ⟨ns,by rw[g.mo];exact aem (abg.mpr g.l3) (by decide),λk hk=>Classical.byContradiction λz=>hk (by rw[g.pin,if_neg z])⟩
theorem QJ{es:List (Int×V)}{k:Int}{v:V}:(dput es k v).length<=es.length+1:=by
 unfold dput
 split
 ·rw[aad];exact adE _
 ·rw[aag];exact aaZ _
section
variable {s:Dk} {c:Ch} {j:Jn} {F:List Cl} {H:Hp} {n:Nat} {X:Xp}
theorem QK{Q:Fl->Sp}{ns:List Int}{v:Int->By}{d r:Nat}{k x:Int}{o:By}{x5 x8:Option V}(h:Holds H (aN c.ca j++DC s c F))(g:jg s c j ns v)(h1:0<=x)(h2:x<s.B)(ow:x<1∨5<=x)(ho:(o.length:Int)=s.S)(hl:(cU ns x).length<=3)(hc:j.calls≠0)
  (q:∀ H' c' j' x8,jg s c' j' (cU ns x) (upd v x o)->j'.calls=j.calls->j'.jo=j.jo->c'.ca=c.ca->Holds H' (aN c'.ca j'++DC s c' F)->Q .next ⟨gX d r k c'.ca j'.jo x5 (some (.int x)) (some (.bytes o)) x8,H'⟩):
  Wq (ax (xR (Rn 4 n)) ⟨gX d r k c.ca j.jo x5 (some (.int x)) (some (.bytes o)) x8,H⟩) Q X:=by
 have hD:=cL h
 refine ag<|aY<|aW sa rfl rfl<|aj rfl ⟨rfl,bF hD,au<|aj rfl<|ar (sF hD g.r.ok g.r.idle h1 h2 (sG g.r g.jb) λH c' l1 l2 b gt h=>aF ?_)⟩
 have hx:=gt.num
 subst hx
 have hm:b∈c'.ak:=by rw[gt.e];exact aac _ (.head _)
 have hz:=gt.ok.ak.z b hm
 have hb:=fu gt.e h
 refine ag<|bh<|aW yA rfl rfl<|aj rfl ⟨rfl,dj hb,au<|aj rfl<|ar (yS hb (mN hz gt.ok.dk.z.2) (agy.inj (ho.trans hz.symm)) λH h=>?_)⟩
 have h:Holds H (DC s (c'.with (l1++b.data o::l2)) (aN c.ca j++F)):=kP (b:=b) (b':=b.data o) rfl h
 have hb1:(b.data o).h=1:=gt.held
 have ok1:bC s (c'.with (l1++b.data o::l2)):=gt.ok.swap gt.e rfl rfl ho (gt.ok.ak.p b hm) λ_ z=>by rw[hb1]at z;contradiction
 have h:=eM h
 rw[<-gt.ca]at h
 have hp:b.p=if b.n∈ns then 1 else 0:=gt.sI.trans (g.pin _)
 have fin:∀ {H:Hp} {p:Int} {j':Jn},p=1->(∀ k,(j'.nt.lookup k).isSome=decide (k∈cU ns b.n))->j'.nt.length<=(cU ns b.n).length->(cU ns b.n).Nodup->j'.ns=cU ns b.n->lq (j'.start=j.start) (j'.size=j.size) (j'.most=j.most) (j'.calls=j.calls) (j'.jo=j.jo) True->Holds H (aN c'.ca j'++DC s (c'.with (l1++(b.data o).pin p::l2)) F)->
   Wq (ax (xQ (Rn 4 n)) ⟨gX d r k c.ca j.jo x5 (some (.int b.n)) (some (.bytes o)) (some (.ref b.a)),H⟩) Q X:=by
  intro H p j' e1 nt ntl nd ens ej h
  subst e1
  have ok2:bC s (c'.with (l1++(b.data o).pin 1::l2)):=gt.ok.swap gt.e rfl rfl ho (show(0:Int)<=1 from by decide) λ(z:(1:Int)=0)=>by contradiction
  refine ag<|bh<|aW sb rfl rfl<|aj rfl ⟨by rw[<-gt.ca];rfl,bF (cL h),au<|aj rfl<|ar (sz (b:=(b.data o).pin 1) (l1:=l1) (l2:=l2) (cL h) ok2 rfl hb1 λH h=>?_)⟩
  have sw:=ok2.swap (b':=((b.data o).pin 1).hold 0) rfl rfl rfl ho (show(0:Int)<=1 from by decide) λ(z:(1:Int)=0)=>by contradiction
  obtain⟨r2,e2⟩:=sJ g.r gt (b':=((b.data o).pin 1).hold 0) rfl rfl sw.roll λk hk=>rfl
  refine fj (X:=X) ?_
  have:=q H (c'.with (l1++l2++[((b.data o).pin 1).hold 0])) j' (some (.ref b.a)) ⟨r2,λk=>?_,λk=>?_,gt.most.trans g.mo,ens,ej.1.trans g.js,ej.2.trans g.jz,ej.3.trans g.jm,nt,ntl,nd,hl⟩ ej.4 ej.5 gt.ca (eM h)
  ·rw[ej.5,show(c'.with (l1++l2++[((b.data o).pin 1).hold 0])).ca=c.ca from gt.ca]at this;exact this
  ·rw[(e2 k).1]
   unfold upd
   rw[g.view];rfl
  ·rw[(e2 k).2,g.pin]
   by_cases hk:k=b.n
   ·rw[if_pos hk,if_pos (k8.mpr (.inl hk))];rfl
   ·rw[if_neg hk]
    by_cases m:k∈ns
    ·rw[if_pos m,if_pos (k8.mpr (.inr m))]
    ·rw[if_neg m,if_neg λz=>(k8.mp z).elim hk m]
 have own:j.own b.n=false:=by
  unfold Jn.own
  rw[g.js,g.jz]
  rcases ow with h |h
  ·rw[decide_eq_false (adf.mpr h)];rfl
  ·rw[show decide (b.n<1+4)=false from decide_eq_false (abI.mpr h),agC]
 have nl:=g.nl;have l3:=g.l3
 refine ag<|bh<|aW Qe rfl rfl<|aj rfl ⟨rfl,aU h,au<|aj rfl<|ar (Qr (c:=c'.with (l1++b.data o::l2)) (b:=b.data o) (l1:=l1) (l2:=l2) h ok1 rfl (by rw[hb1];decide) (by rw[g.jn];lia) (by unfold lim;lia) (λk=>by rw[g.jn];exact g.nt k) (λz=>absurd z hc) (λ_ z=>?_) (λ_ _ m=>?_) (λ_ _ m z=>?_) λ_ _ m z H h=>?_)⟩
 ·exact aaa (own.symm.trans z)
 ·have m:b.n∈ns:=by rw[g.jn]at m;exact m
  have ea:cU ns b.n=ns:=if_pos m
  rw[if_pos m]at hp
  exact fin (p:=b.p) (j':=j) hp (by rw[ea];exact g.nt) (by rw[ea];exact g.nl) (by rw[ea];exact g.nd) (by rw[ea];exact g.jn) ⟨rfl,rfl,rfl,rfl,rfl,trivial⟩ h
 ·have m:b.n ∉ ns:=by rw[g.jn]at m;exact m
  have ea:cU ns b.n=ns++[b.n]:=if_neg m
  rw[ea,aag]at hl
  rw[g.jm,g.jn]at z
  exact absurd (abg.mp z) (Nat.not_le.mpr hl)
 ·have m:b.n ∉ ns:=by rw[g.jn]at m;exact m
  have ea:cU ns b.n=ns++[b.n]:=if_neg m
  rw[if_neg m]at hp
  have nd:(ns++[b.n]).Nodup:=aaW.mpr ⟨g.nd,aaI.mpr ⟨nofun,abC⟩,λa ha y hy e=>m (by rw[aaP.mp hy]at e;exact e▸ha)⟩
  refine fin (p:=b.p+1) (j':=j.note b.n) (by rw[hp];rfl) (λk=>?_) ?_ (by rw[ea];exact nd) (by rw[ea];show j.ns++[b.n]=_;rw[g.jn]) ⟨rfl,rfl,rfl,rfl,rfl,trivial⟩ h
  ·show((dput j.nt b.n (.int j.ns.length)).lookup k).isSome=_
   rw[kO,ea]
   by_cases hk:k=b.n
   ·rw[if_pos hk,decide_eq_true (aac _ (hk▸.head _))];rfl
   ·rw[if_neg hk,g.nt]
    exact decide_eq_decide.mpr ⟨λz=>aao _ z,λz=>(aav.mp z).elim id λz=>absurd (aaP.mp z) hk⟩
  ·rw[ea,aag]
   exact aah QJ (abE g.nl)
end
section
variable {X:Xp} {lo:Lo} {H:Hp}
abbrev tj{α:Type}(k:Addr->M α)(Q:α->Sp)(X:Xp):Xp:=λc H=>∀ lo,Wq (k c ⟨lo,H⟩) Q X
theorem QL{α:Type}{Q:α->Sp}{m:M α}{k:Addr->M α}(h:Wq (m ⟨lo,H⟩) Q (tj k Q X)):Wq (Lite.attempt m k ⟨lo,H⟩) Q X:=by
 unfold Lite.attempt
 cases e:m ⟨lo,H⟩ with
 |ok a s=>rw[e]at h;exact h
 |exc c s=>rw[e]at h;exact h s.lo
 |no=>rw[e]at h;exact h.elim
theorem QM{α:Type}{Q:α->Sp}{m:M α}(h:Wq (m ⟨lo,H⟩) Q nx):Wq (Lite.calm m ⟨lo,H⟩) Q X:=by
 unfold Lite.calm
 cases e:m ⟨lo,H⟩ with
 |ok a s=>rw[e]at h;exact h
 |exc c s=>rw[e]at h;exact h.elim
 |no=>rw[e]at h;exact h.elim
theorem QN{Q:Fl->Sp}{c:Addr}{body:Lm}{rest:M Fl}(e:(isExc P0 c&&isExc P0 c)=true)(h:Wq (ax body ⟨lo,H⟩) Q nx):Wq (mw P0 c c body rest ⟨lo,H⟩) Q X:=by
 unfold mw
 refine af<|bp e ?_
 rw[if_pos rfl]
 exact QM h
theorem QO:(isExc P0 95&&isExc P0 95)=true:=by kernel_rfl
end
abbrev Us:=List (Nat×Int×By)
def b7(us:Us):Ws:=us.map (·.2)
def bo(us:Us):List Int:=us.foldl (λns t=>cU ns t.2.1) []
theorem mX(us:Us)(t:Nat×Int×By):bo (us++[t])=cU (bo us) t.2.1:=by unfold bo;rw[acO];rfl
theorem z4(us:Us)(t:Nat×Int×By):b7 (us++[t])=b7 us++[t.2]:=by unfold b7;rw[aaq];rfl
theorem z5{k:Int}:∀ {us:Us} {ns:List Int},k∈us.foldl (λns t=>cU ns t.2.1) ns↔k∈ns∨∃ t∈us,t.2.1=k
 | [],_=>⟨.inl,λh=>h.elim id λ⟨_,m,_⟩=>nomatch m⟩
 |t::us,ns=>by
  refine(z5 (us:=us)).trans ⟨λh=>?_,λh=>?_⟩
  ·rcases h with h | ⟨u,m,e⟩
   ·exact(k8.mp h).elim (λe=>.inr ⟨t,.head _,e.symm⟩) .inl
   ·exact .inr ⟨u,.tail _ m,e⟩
  ·rcases h with h | ⟨u,m,e⟩
   ·exact .inl (k8.mpr (.inr h))
   ·cases m with
    |head=>exact .inl (k8.mpr (.inl e.symm))
    |tail _ m=>exact .inr ⟨u,m,e⟩
theorem mY{us:Us}{k:Int}:k∈bo us↔∃ t∈us,t.2.1=k:=z5.trans ⟨λh=>h.elim (λz=>nomatch z) id,.inr⟩
structure dU(B:Int)(us:Us):Prop where
 n:∀ t∈us,cB (0<=t.2.1) (t.2.1<B) (t.2.1<1∨5<=t.2.1) ((t.2.2.length:Int)=16)
 l:us.length<=4
 ne:us≠[]
 d:∀ d r,us=d++r->(bo d).length<=3
def dK(us:Us):O:=.list (us.map λt=>V.ref t.1)
def fZ(F:List Cl)(tr:Nat)(us:Us):Prop:=(tr,dK us)∈F∧∀ t∈us,cS t∈F
theorem dU.lo{B:Int}{us:Us}(r:dU B us){k:Int}(h:k∈bo us):aO (0<=k) (k<B) (k<1∨1+4<=k):=by
 obtain⟨t,m,rfl⟩:=mY.mp h
 have:=r.n t m
 exact⟨this.1,this.2,this.3⟩
theorem dU.nn{B:Int}{us:Us}(r:dU B us):bo us≠[]:=λe=>by
 cases us with
 |nil=>exact r.ne rfl
 |cons t us=>
  have:t.2.1∈bo (t::us):=mY.mpr ⟨t,.head _,rfl⟩
  rw[e]at this
  exact nomatch this
theorem QP{s:Dk}{c:Ch}(ok:bC s c)(k:Int):((view s c k).length:Int)=s.S:=by
 unfold view
 split
 ·rename_i b e
  exact ok.ak.z b (abv e)
 ·exact oJ ok.dk k
section
variable {s:Dk} {c:Ch} {F:List Cl} {H:Hp} {n:Nat} {Q:Qh} {X:Xp}
theorem QQ{Q:Fl->Sp}{j:Jn}{us:Us}{tr m:Nat}{x5 x6 x7 x8:Option V}(h:Holds H (aN c.ca j++DC s c F))(g:jg s c j (bo us) (aM (b7 us) (aI s)))(ec:j.calls=m)(hu:s.un=[])(hS:s.S=16)(hB:5<=s.B)(hw:0<=s.w∧s.w<=900)(ro:dU s.B us)(hc:m=1∨m=2)
  (y:bY s F X [] (cw 1 16 (aM (b7 us) (aI s)) (bo us)))
  (q:∀ lo H' s',bR s'->Tr s s' (cw 1 16 (aM (b7 us) (aI s)) (bo us))->Holds H' (av s'++F)->Q .next ⟨lo,H'⟩):
  Wq (ax (xS (Rn 7 n)) ⟨gX s.dk tr m c.ca j.jo x5 x6 x7 x8,H⟩) Q X:=by
 have hm:m<=1000:=by rcases hc with rfl |rfl<;>decide
 have gv:view s c=aM (b7 us) (aI s):=funext g.view
 have l3:=g.l3
 refine ag<|jR (n:=m) (g:=λ(k:Nat)=>V.int k) (λk st=>∃ x5,st.lo=gX s.dk tr m c.ca j.jo x5 x6 x7 x8∧((k<m∧Holds st.H (aN c.ca (j.bX ((m:Int) -k))++DC s c F))∨(k=m∧∃ s',bR s'∧Tr s s' (cw 1 16 (aM (b7 us) (aI s)) (bo us))∧Holds st.H (av s'++F))))
  (aR<|ba rfl<|iz h λH r h=>⟨iA (n:=m) h.hd hm,_,rfl,.inl ⟨by rcases hc with rfl |rfl<;>decide,?_⟩⟩) (λk st hk I=>?_) λst I=>?_
 ·rw[show j.bX ((m:Int) -((0:Nat):Int))=j from by unfold Jn.bX;rw[show(m:Int) -((0:Nat):Int)=j.calls from by rw[ec];exact ahr _]]
  exact h.bg
 ·obtain⟨_,hlo,I⟩:=I
  obtain⟨lo,H⟩:=st
  subst hlo
  rcases I with ⟨_,h⟩ | ⟨z,_⟩
  ·refine aF<|ag<|bh<|aW Qf rfl rfl<|aj rfl ⟨rfl,aU (j:=j.bX ((m:Int) -k)) h,ar<|QI (j:=j.bX ((m:Int) -k)) h (show(m:Int) -k≠0 by lia) (by show j.ns≠[];rw[g.jn];exact ro.nn) (λz H h=>⟨_,rfl,.inl ⟨?_,?_⟩⟩) λz H h=>?_⟩
   ·have z:(m:Int) -k≠1:=z
    lia
   ·rw[show(j.bX ((m:Int) -k)).bX ((j.bX ((m:Int) -k)).calls-1)=j.bX ((m:Int) -((k+1:Nat):Int)) from by
     unfold Jn.bX
     dsimp only
     rw[show(m:Int) -k-1=(m:Int) -((k+1:Nat):Int) from by lia]]at h
    exact h
   ·have z:(m:Int) -k=1:=z
    have h:Holds H (aN c.ca (j.bX 0)++DC s c F):=h
    have ens:(j.bX 0).ns=bo us:=g.jn
    have ejs:(j.bX 0).start=1:=g.js
    have ejz:(j.bX 0).size=4:=g.jz
    have e0:(j.bX 0).jo=j.jo:=rfl
    show Cq (Rn 6 n (.ah 180) [.ref (j.bX 0).jo] H) _ X
    generalize j.bX 0=j0 at h ens ejs ejz
    rw[<-gv,<-hS,<-ejs,<-ens]at y
    refine QG (j:=j0) h g.r g.jb ⟨by rw[ejs];decide,by rw[ejs,ejz];exact hB,by rw[ejz,ens];lia,λk hk=>by rw[ejs,ejz];exact ro.lo (ens▸hk),by rw[ens];exact aah l3 (by decide)⟩ (by rw[hS,ens];lia) (by rw[hS];decide) (by rw[ens];exact g.nd) (by rw[ens];exact g.pin) (λk hk=>?_) (λk=>?_) hu hw y λH s' c' u1 u2 T r' ca mo h=>?_
    ·rw[gv]
     refine jU λq hq e=>hk ?_
     obtain⟨t,ht,rfl⟩:=aau.mp hq
     rw[ens]
     exact mY.mpr ⟨t,ht,e⟩
    ·exact QP g.r.ok k
    ·rw[gv,hS,ejs,ens]at T
     refine⟨_,rfl,.inr ⟨by lia,s',r'.ok.dk,T,h.sub ?_⟩⟩
     exact(aaG _ _).trans (aaG _ _)
  ·exact absurd z (abY hk)
 ·obtain⟨_,hlo,I⟩:=I
  obtain⟨lo,H⟩:=st
  subst hlo
  rcases I with ⟨z,_⟩ | ⟨_,s',k',g',h'⟩
  ·exact absurd z (aeC _)
  ·exact fj (X:=X) (q _ _ _ k' g' h')
theorem QR{Q:Fl->Sp}{j:Jn}{us:Us}{tr m:Nat}{x5:Option V}(h:Holds H (aN c.ca j++DC s c F))(g:jg s c j (bo []) (aM (b7 []) (aI s)))(ec:j.calls=m)(hu:s.un=[])(hS:s.S=16)(hB:5<=s.B)(hw:0<=s.w∧s.w<=900)(hr:fZ F tr us)(ro:dU s.B us)(hc:m=1∨m=2)
  (y:bY s F X [] (cw 1 16 (aM (b7 us) (aI s)) (bo us)))
  (q:∀ lo H' s',bR s'->Tr s s' (cw 1 16 (aM (b7 us) (aI s)) (bo us))->Holds H' (av s'++F)->Q .next ⟨lo,H'⟩):
  Wq (ax (xT (Rn 7 n)) ⟨gX s.dk tr m c.ca j.jo x5 none none none,H⟩) Q X:=by
 have mem:∀ {c1:Ch} {j:Jn} {y:Cl},y∈F->y∈aN c1.ca j++DC s c1 F:=λm=>aac _ (aac _ (aac _ m))
 refine ag<|i8 (a:=tr) (xs:=us.map λt=>V.ref t.1) (λvs st=>d9 λd r c1 j1=>cW λx6 x7 x8=>lq (us=d++r) (vs=r.map λt=>V.ref t.1) (st.lo=gX s.dk tr m c1.ca j1.jo x5 x6 x7 x8) (jg s c1 j1 (bo d) (aM (b7 d) (aI s))) (j1.calls=m) (Holds st.H (aN c1.ca j1++DC s c1 F))) (aaJ (by rw[aad];exact aah ro.l (by decide)))
  (aj rfl ⟨rfl,h.get (mem hr.1),[],us,c,j,_,_,_,rfl,rfl,rfl,g,ec,h⟩) (λvs st I=>?_) (λv vs st I=>?_) λst I=>?_
 ·obtain⟨_,_,_,_,_,_,_,_,_,_,_,_,h⟩:=I
  exact h.get (mem hr.1)
 ·obtain⟨d,r,c1,j1,_,_,_,e1,e2,hlo,g,ec,h⟩:=I
  obtain⟨lo,H⟩:=st
  subst hlo
  cases r with
  |nil=>contradiction
  |cons t r=>
   obtain⟨rfl,rfl⟩:=abU.inj e2
   have ht:t∈us:=by rw[e1];exact aac _ (.head _)
   obtain⟨a,x,o⟩:=t
   have hn:=ro.n _ ht
   have et:H[a]? =some (.tuple [.int x,.bytes o]):=h.get (mem (hr.2 _ ht))
   have e1:us=(d++[(a,x,o)])++r:=by rw[e1,aaf];rfl
   have hd:=ro.d _ _ e1
   refine d6 et<|aF<|aF<|QK (j:=j1) h g hn.1 hn.2 hn.3 (by rw[hS];exact hn.4) (by rw[mX]at hd;exact hd) (by rw[ec];rcases hc with rfl |rfl<;>decide) λH c2 j2 x8 g ec2 ej2 ca h=>?_
   refine⟨d++[(a,x,o)],r,c2,j2,_,_,_,e1,rfl,rfl,?_,ec2.trans ec,h⟩
   rw[mX,z4,kS]
   exact g
 ·obtain⟨d,r,c1,j1,x6,x7,x8,e1,e2,hlo,g,ec,h⟩:=I
  obtain⟨lo,H⟩:=st
  subst hlo
  have he:r=[]:=abr.mp e2.symm
  subst he
  rw[aar]at e1
  subst e1
  unfold bQ
  exact QQ h g ec hu hS hB hw ro hc y q
theorem QS{Q:Fl->Sp}{j:Jn}{us:Us}{tr m:Nat}(h:Holds H (aN c.ca j++DC s c F))(g:jg s c j (bo []) (aM (b7 []) (aI s)))(ec:j.calls=0)(ee:j.each=1)(hu:s.un=[])(hS:s.S=16)(hB:5<=s.B)(hw:0<=s.w∧s.w<=900)(hr:fZ F tr us)(ro:dU s.B us)(hc:m=1∨m=2)
  (y:bY s F X [] (cw 1 16 (aM (b7 us) (aI s)) (bo us)))
  (q:∀ lo H' s',bR s'->Tr s s' (cw 1 16 (aM (b7 us) (aI s)) (bo us))->Holds H' (av s'++F)->Q .next ⟨lo,H'⟩):
  Wq (ax (rT (Rn 7 n)) ⟨gX s.dk tr m c.ca j.jo none none none none,H⟩) Q X:=by
 have hm:m<=1000:=by rcases hc with rfl |rfl<;>decide
 refine ag<|jR (n:=m) (g:=λ(k:Nat)=>V.int k) (λk st=>∃ x5,st.lo=gX s.dk tr m c.ca j.jo x5 none none none∧Holds st.H (aN c.ca (j.bX k)++DC s c F))
  (aR<|ba rfl<|iz h λH r h=>⟨iA (n:=m) h.hd hm,_,rfl,by rw[show j.bX ((0:Nat):Int)=j from by unfold Jn.bX;rw[<-show j.calls=((0:Nat):Int) from ec]];exact h.bg⟩) (λk st hk I=>?_) λst I=>?_
 ·obtain⟨_,hlo,h⟩:=I
  obtain⟨lo,H⟩:=st
  subst hlo
  have e3:(j.bX (k:Int)).room=true:=by
   unfold Jn.room
   show decide ((j.ns.length:Int)+((k:Int)+1)*j.each<=j.most)=true
   rw[g.jn,ee,g.jm]
   refine decide_eq_true ?_
   show(0:Int)+((k:Int)+1)*1<=3
   rcases hc with rfl |rfl<;>lia
  exact aF<|ag<|bh<|aW Qd rfl rfl<|aj rfl ⟨rfl,aU (j:=j.bX (k:Int)) h,ar<|Qq (j:=j.bX (k:Int)) h (by show j.ns.length<=1000;rw[g.jn];exact abh _) (by show j.each.natAbs<=1000;rw[ee];decide) (λ_ H h=>⟨_,rfl,h⟩) λz=>aaa (z.symm.trans e3)⟩
 ·obtain⟨_,hlo,h⟩:=I
  obtain⟨lo,H⟩:=st
  subst hlo
  unfold bQ
  exact QR (j:=j.bX m) h ⟨g.r,g.view,g.pin,g.mo,g.jn,g.js,g.jz,g.jm,g.nt,g.nl,g.nd,g.l3⟩ rfl hu hS hB hw hr ro hc y q
theorem z6{us:Us}{tr m:Nat}(h:Holds H (av s++F))(ok:bR s)(hu:s.un=[])(hS:s.S=16)(hB:5<=s.B)(hw:0<=s.w∧s.w<=900)(hr:fZ F tr us)(ro:dU s.B us)(hc:m=1∨m=2)
  (x:bY s F (λ_ H'=>Q (.bool true) H') [] (cw 1 16 (aM (b7 us) (aI s)) (bo us)))
  (q:∀ H' s',bR s'->Tr s s' (cw 1 16 (aM (b7 us) (aI s)) (bo us))->Holds H' (av s'++F)->Q (.bool false) H'):
  Cq (Rn 8 n (.ah 579) [.ref s.dk,.ref tr,.int m] H) Q X:=by
 rw[Ng]
 refine Cq.fin<|ag<|QL ?_
 have y:bY s F (tj (λc=>mw P0 c 95 [bP (pure (V.bool true))] no) (bQ (oj (Rn 7 n)) (cP Q) X) X) [] (cw 1 16 (aM (b7 us) (aI s)) (bo us)):=λa o b e s' H' k g bl h lo=>
  QN QO<|ag<|cQ<|aq<|x a o b e s' H' k g bl h
 have fin:∀ (lo:Lo) (H:Hp) (s':Dk),bR s'->Tr s s' (cw 1 16 (aM (b7 us) (aI s)) (bo us))->Holds H (av s'++F)->bQ (oj (Rn 7 n)) (cP Q) X .next ⟨lo,H⟩:=λlo H s' k g h=>by
  unfold bQ
  exact ag<|cQ<|aq<|q _ _ k g h
 generalize bQ (oj (Rn 7 n)) (cP Q) X=Q1 at y fin ⊢
 generalize tj (λc=>mw P0 c 95 [bP (pure (V.bool true))] no) Q1 X=X1 at y ⊢
 refine ag<|aY<|aR<|ba rfl<|kY (init:=334) rfl h λH tc h=>zC h (by decide) λH row cj h=>⟨rfl,aF ?_⟩
 have r0:Rest s (jd tc row cj 8 s.S):=⟨⟨ok,⟨abC,λ_ z=>(nomatch z),λ_ z=>(nomatch z),λ_ z=>(nomatch z)⟩,λ_ z=>(nomatch z),λ_=>rfl,di.nil,show(0:Int)<=8 by decide,show(8:Int)<=1000 by decide,rfl⟩,λ_ z=>(nomatch z)⟩
 refine ag<|aY<|aR<|ba rfl<|kY (init:=131) rfl h λH t h=>zE (c:=jd tc row cj 8 s.S) (e:=.int 1) h hS rfl hB (.inr rfl) λH nums fG ea ee h=>⟨rfl,aF ?_⟩
 obtain rfl:=ee rfl
 show Wq (ax (rT (Rn 7 n)) ⟨gX s.dk tr m tc t none none none none,H⟩) Q1 X1
 exact QS (c:=jd tc row cj 8 s.S) h ⟨r0,λ_=>rfl,λ_=>rfl,rfl,rfl,rfl,rfl,rfl,λ_=>rfl,aaZ _,abC,abh _⟩ rfl rfl hu hS hB hw hr ro hc y fin
end
section
variable {X:Xp} {C:Ct} {lo:Lo} {H:Hp} {Q:V->Sp}
theorem QT{c:List Cl}{a b:Int}(hc:Holds H c)(q:∀ H' t,Holds H' ((t,.range a b 1)::c)->Q (.ref t) ⟨lo,H'⟩):Wq (aP P0 C true (.ty "range") [.int a,.int b] ⟨lo,H⟩) Q X:=by
 have e2:aP P0 C true (.ty "range") [.int a,.int b] ⟨lo,H⟩=Lite.alloc (.range a b 1) ⟨lo,H⟩:=by kernel_rfl
 rw[e2]
 exact d5 hc q
theorem QU{a:Nat}{B:Int}{st:St}(h:st.H[a]? =some (.range 5 B 1))(h5:5<=B)(hb:B<=1000):iter (.ref a) st=.ok ((aaw (B-5).toNat).map λ(k:Nat)=>V.int (5+k),none) st:=by
 show(Lite.obj a>>=km a) st=_
 rw[cb (mK h)]
 show(Lite.guard (eo 5 B 1)>>=λ_=>aak ((rangeInts 5 B 1).map V.int,none)) st=_
 have:eo 5 B 1=true:=by
  unfold eo
  simp only[abD,decide_eq_true_eq]
  lia
 have e:(rangeInts 5 B 1).map V.int=(aaw (B-5).toNat).map λ(k:Nat)=>V.int (5+k):=by
  unfold rangeInts
  rw[abP]
  have:(if (5:Int)<B then (B-5-1)/1+1 else 0).toNat=(B-5).toNat:=by
   rw[akj,aiu]
   split
   ·rfl
   ·lia
  rw[this]
  refine abJ λk _=>?_
  show V.int (5+(k:Int)*1)=V.int (5+k)
  rw[Int.mul_one]
 rw[this,e]
 rfl
end
def cn(B:Int)(d:Int->By):List By:=d 0::(aaw (B-5).toNat).map λ(k:Nat)=>d (5+k)
theorem jX{B:Int}{d d':Int->By}(h:∀ k,0<=k->k<B->k<1∨5<=k->d k=d' k)(hB:5<=B):cn B d=cn B d':=by
 unfold cn
 rw[h 0 (acS 0) (by lia) (.inl (by decide))]
 exact congrArg _ (abJ λk hk=>h _ (by lia) (by have:=abm.mp hk;lia) (.inr (by lia)))
theorem QV{vs:List By}(h:5<=vs.length):vs.getD 0 []::vs.drop 5=cn vs.length (eY vs):=by
 unfold cn
 refine congr (congrArg abU rfl) (afZ (by rw[acj,aad,aap];lia) λk h1 h2=>?_)
 rw[List.getElem_drop,adO,abl]
 unfold eY
 have:(5+(k:Int)).toNat=5+k:=by lia
 rw[this,aat,aaz (by rw[acj]at h1;lia)];rfl
section
variable {s:Dk} {F:List Cl} {H:Hp} {n:Nat} {Q:Qh} {X:Xp}
theorem z7(h:Holds H (av s++F))(ok:bR s)(hB:5<=s.B)(q:∀ H' t,Holds H' ((t,.list ((cn s.B (aI s)).map V.bytes))::(av s++F))->Q (.ref t) H'):Cq (Rn 3 n (.ah 584) [.ref s.dk] H) Q X:=by
 have hb:=ok.b
 rw[Nj]
 have h:=h.new (.cell (some (.ref s.dk)))
 generalize H.length=cc at h
 generalize H++[O.cell (some (V.ref s.dk))]=H at h
 refine Cq.fin<|ag<|cQ<|aZ<|eU (c:=(cc,.cell (some (.ref s.dk)))::(av s++F))<|au<|aW sf rfl rfl<|iY rfl h.hd ⟨rfl,bq h.bg,ba rfl<|sj h.bg ok.al (acS 0) (by lia) ⟨ok.z.1,kQ ok.z.2⟩<|ar ⟨rfl,h,λH t h=>?_⟩⟩
 rw[sr ok]at h
 refine mP (items:=(aaw (s.B-5).toNat).map λ(k:Nat)=>V.int (5+k)) (o:=none) (lo':=[none,none,some (.ref cc)]) (λvs ys lo1 c1=>aO (c1=(t,.list [.bytes (aI s 0)])::(cc,.cell (some (.ref s.dk)))::(av s++F)) (bT λx y=>lo1=[x,y,some (.ref cc)]) (∃ k,aO (k<=(s.B-5).toNat) (vs=((aaw (s.B-5).toNat).drop k).map λ(k:Nat)=>V.int (5+k)) (ys=(((aaw (s.B-5).toNat).take k).map λ(k:Nat)=>V.bytes (aI s (5+k)))))) rfl (by rw[aad,aap];lia)
  (aR<|au<|aq<|au<|af<|iY rfl (h.on _ (.tail _ (.head _)))<|gS (bq h.bg.bg) (bA (by decide)) rfl rfl<|ar<|QT h λH r h=>⟨rfl,_,h.bg,QU h.hd hB hb.2,rfl,⟨_,_,rfl⟩,0,abh _,rfl,rfl⟩) (λ_ _ _ _ _ _ _=>rfl) (λv vs ys lo1 c1 H1 t1 J h1=>?_) λys lo1 c1 H' t1 J h1=>?_
 ·obtain⟨rfl,⟨x,y,rfl⟩,k,hk,ev,ey⟩:=J
  have hkn:k<(s.B-5).toNat:=by
   rcases aep k (s.B-5).toNat with q |q
   ·exact q
   ·rw[aby (by rw[aap];exact q)]at ev;contradiction
  rw[<-abx (h:=by rw[aap];exact hkn),aaH,abl]at ev
  obtain⟨rfl,rfl⟩:=abU.inj ev
  have hd:Holds H1 (av s++F):=h1.bg.bg.bg
  refine aF ?_
  refine aW sf rfl rfl<|iY rfl (h1.on _ (.tail _ (.tail _ (.head _)))) ⟨rfl,bq hd,ba rfl<|sj hd ok.al (by lia) (by lia) ⟨ok.z.1,kQ ok.z.2⟩ ?_⟩
  rw[sr ok]
  refine⟨_,h1,rfl,⟨_,_,rfl⟩,k+1,hkn,rfl,?_⟩
  rw[ait,aaq,ey,aaz (by rw[aap];exact hkn),abl]
  rfl
 ·obtain⟨rfl,_,k,hk,ev,rfl⟩:=J
  have hkn:(s.B-5).toNat<=k:=by
   have:=abr.mp ev.symm
   have:=abW.mp this
   rwa [aap]at this
  rw[aca (by rw[aap];exact hkn)]at h1
  refine oU h1 (h1.on _ (.tail _ (.head _))) h1.hd (by rw[aad,aap];show 1+_<=lim;unfold lim;lia) λH t2 h=>q H t2 ?_
  have e:(cn s.B (aI s)).map V.bytes=[V.bytes (aI s 0)]++(aaw (s.B-5).toNat).map λ(k:Nat)=>V.bytes (aI s (5+k)):=by
   unfold cn
   rw[aaH,abP];rfl
  rw[e]
  exact h.sub (.cons_cons _ (.cons _ (.cons _ (.cons _ (aaM _)))))
end
theorem QW{α:Type}(l:List α)(i:Nat):cM l (some (i:Int)) none=l.drop i:=by
 unfold cM aeb aeR
 dsimp only
 rw[if_neg (abI.mpr (aaL i)),abk]
 by_cases h:i<=l.length
 ·rw[acp h,aca (by rw[acj];exact aaZ _)]
 ·rw[adQ (acF h),ajZ,aby (acF h)];rfl
section
variable {X:Xp} {lo:Lo} {H:Hp} {Q:V->Sp}
theorem z8{i t:Nat}{us:List By}{c:List Cl}(e0:lo[i]? =some (some (.ref t)))(hc:Holds H c)(ht:(t,O.list (us.map V.bytes))∈c)(hl:5<=us.length∧us.length<=100)(q:∀ H' t2,Holds H' ((t2,.list ((cn us.length (eY us)).map V.bytes))::c)->Q (.ref t2) ⟨lo,H'⟩):
  Wq (Lite.aJ .Add (listS [(Lite.ae i)>>=λo=>(aak (V.int 0))>>=λi=>cX o i]) ((Lite.ae i)>>=λo=>((aak (V.int 5))>>=λv=>aX v>>=λi=>aak (some i))>>=λl=>aak none>>=λh=>fA o l h) ⟨lo,H⟩) Q X:=by
 have hll:(us.map V.bytes).length<=lim:=by rw[aad];exact aah hl.2 (b6 rfl)
 have h0:(us.map V.bytes)[0]? =some (.bytes (us.getD 0 [])):=P8 (abV (by decide) hl.1)
 refine aZ<|eU (c:=c)<|au<|af<|aj e0<|af<|aq<|fY (k:=0) (hc.get ht) hll h0<|ar ⟨rfl,hc,λH t1 h=>?_⟩
 refine af<|aj e0<|af<|ba rfl<|af<|aq<|sP (i:=some ((5:Nat):Int)) (jT (by decide)) sO (h.get (.tail _ ht)) hll h λH t2 h=>?_
 rw[QW]at h
 refine oU h (h.on _ (.tail _ (.head _))) h.hd (by rw[acj,aad];show 1+(us.length-5)<=lim;unfold lim;lia) λH t3 h=>q H t3 ?_
 have e:(cn us.length (eY us)).map V.bytes=[V.bytes (us.getD 0 [])]++(us.map V.bytes).drop 5:=by
  rw[<-QV hl.1,aaH,ajq];rfl
 rw[e]
 exact h.sub (.cons_cons _ (.cons _ (.cons _ (aaM _))))
end
section
variable {F:List Cl} {H:Hp} {n:Nat} {Q:Qh} {X:Xp}
theorem z9{vs:List By}{us:Us}{tv tr:Nat}(h:Holds H F)(hv:(tv,O.list (vs.map V.bytes))∈F)(hl:5<=vs.length∧vs.length<=100)(hr:fZ F tr us)(ro:dU vs.length us)
  (q:∀ H' t,Holds H' ((t,.list ((cn vs.length (aM (b7 us) (eY vs))).map V.bytes))::F)->Q (.ref t) H'):Cq (Rn 1 n (.ah 591) [.ref tv,.ref tr] H) Q X:=by
 have hr1:(tr,O.list (us.map λt=>V.ref t.1))∈F:=hr.1
 rw[Nr]
 refine Cq.fin<|ag<|aY<|aR<|ba rfl<|zg h (h.get hv) (by rw[aad];exact aah hl.2 (b6 rfl)) λH td h=>aF ?_
 refine ag<|i8 (a:=tr) (xs:=us.map λt=>V.ref t.1) (λxs st=>gf λd r ws x y=>gd (us=d++r) (xs=r.map λt=>V.ref t.1) (st.lo=[some (.ref tv),some (.ref tr),some (.ref td),x,y,none]) (ws.length=vs.length∧∀ k:Nat,k<vs.length->ws.getD k []=aM (b7 d) (eY vs) k) (Holds st.H ((td,.list (ws.map V.bytes))::F))) (aaJ (by rw[aad];exact aah ro.l (by decide)))
  (aj rfl ⟨rfl,h.get (.tail _ hr1),[],us,vs,_,_,rfl,rfl,rfl,⟨rfl,λk _=>rfl⟩,h⟩) (λxs st I=>?_) (λv xs st I=>?_) λst I=>?_
 ·obtain⟨_,_,_,_,_,_,_,_,_,h⟩:=I
  exact h.get (.tail _ hr1)
 ·obtain⟨d,r,ws,_,_,e1,e2,hlo,⟨wl,hw⟩,h⟩:=I
  obtain⟨lo,H⟩:=st
  subst hlo
  cases r with
  |nil=>contradiction
  |cons t r=>
   obtain⟨rfl,rfl⟩:=abU.inj e2
   have ht:t∈us:=by rw[e1];exact aac _ (.head _)
   obtain⟨a,x,o⟩:=t
   have hn:=ro.n _ ht
   have hn1:=hn.1
   have hn2:=hn.2
   have et:H[a]? =some (.tuple [.int x,.bytes o]):=h.get (.tail _ (hr.2 _ ht))
   have ex:x=(x.toNat:Int):=tn hn1
   have hx:x.toNat<ws.length:=by rw[wl];lia
   refine d6 et<|aF<|aF<|ag<|aY<|aj rfl<|af<|aj rfl<|af<|aj rfl<|o5 (k:=x.toNat) ex h.hd (by rw[aad,wl];exact aah hl.2 (b6 rfl)) (by rw[aad];exact hx) (h.dt _) λH h=>?_
   refine⟨d++[(a,x,o)],r,ws.set x.toNat o,_,_,by rw[e1,aaf];rfl,rfl,rfl,⟨by rw[adu];exact wl,λk hk=>?_⟩,by rw[ajG];exact h⟩
   rw[zK hx,z4,kS]
   unfold upd
   by_cases e:k=x.toNat
   ·rw[if_pos e,if_pos (by rw[e];exact ex.symm)]
   ·rw[if_neg e,if_neg (by lia)];exact hw k hk
 ·obtain⟨d,r,ws,_,_,e1,e2,hlo,⟨wl,hw⟩,h⟩:=I
  obtain⟨lo,H⟩:=st
  subst hlo
  have he:r=[]:=abr.mp e2.symm
  subst he
  rw[aar]at e1
  subst e1
  unfold bQ
  refine ag<|cQ<|z8 (us:=ws) rfl h (.head _) (by rw[wl];exact hl) λH t2 h=>q H t2 ?_
  rw[wl,jX (d:=eY ws) (d':=aM (b7 us) (eY vs)) (λk h0 h1 _=>?_) (abg.mpr hl.1)]at h
  ·exact h.sub (.cons_cons _ (.cons _ (aaM _)))
  ·have:=hw k.toNat (by lia)
   rw[<-tn h0]at this
   exact this
end
/-! a head of these numbers,read -/
theorem k9{k:Int}(h0:0<=k)(h1:k<10):dJ (dE k)=k:=by
 obtain⟨m,rfl⟩:=abf h0
 have h1:=acG.mp h1
 match m,h1 with
 | 0,_=>decide
 | 1,_=>decide
 | 2,_=>decide
 | 3,_=>decide
 | 4,_=>decide
 | 5,_=>decide
 | 6,_=>decide
 | 7,_=>decide
 | 8,_=>decide
 | 9,_=>decide
 |m+10,h=>exact absurd h (aiz.mpr (ajb 10 m))
theorem QX{ns:List Int}(hl:ns.length<=3)(h:∀ k∈ns,0<=k∧k<10):gD (ck ns 16) 3=some ns:=by
 match ns,hl,h with
 | [],_,_=>kernel_rfl
 | [a],_,h=>
  have e:gD (ck [a] 16) 3=some [dJ (dE a)]:=by kernel_rfl
  have ha:=h a (.head _)
  rw[e,k9 ha.1 ha.2]
 | [a,b],_,h=>
  have e:gD (ck [a,b] 16) 3=some [dJ (dE a),dJ (dE b)]:=by kernel_rfl
  have ha:=h a (.head _)
  have hb:=h b (.tail _ (.head _))
  rw[e,k9 ha.1 ha.2,k9 hb.1 hb.2]
 | [a,b,c],_,h=>
  have e:gD (ck [a,b,c] 16) 3=some [dJ (dE a),dJ (dE b),dJ (dE c)]:=by kernel_rfl
  have ha:=h a (.head _)
  have hb:=h b (.tail _ (.head _))
  have hc:=h c (.tail _ (.tail _ (.head _)))
  rw[e,k9 ha.1 ha.2,k9 hb.1 hb.2,k9 hc.1 hc.2]
 |_::_::_::_::_,hl,_=>exact absurd hl (Nat.not_le.mpr (ajb 4 _))
theorem QY{B:Int}{ns:List Int}(hl:ns.length<=3)(hB:B<=10)(nd:ns.Nodup)(h:∀ k∈ns,aO (0<=k) (k<B) (k<1∨1+4<=k)):fM (ck ns 16) 3 B 1 4=some ns:=by
 unfold fM
 rw[QX hl λk hk=>⟨(h k hk).1,afF (h k hk).2 hB⟩]
 refine zw λi hi=>?_
 have hm:=h _ (getD_mem hi)
 have h3:=hm.3
 unfold gV
 have e3:(ns.take i).contains (ns.getD i 0)=false:=by
  rw[Bool.eq_false_iff]
  intro z
  have z:=acZ.mp z
  obtain⟨j,hj⟩:=abG z
  have hji:j<i:=by
   have:=(aan.mp hj).1
   rw[agf]at this
   exact abV this (Nat.min_le_left _ _)
  rw[List.getElem?_take_of_lt hji]at hj
  have hjl:=(aan.mp hj).1
  have e1:=(aan.mp hj).2
  have e2:ns.getD i 0=ns[i]:=by rw[aat,aaz hi];rfl
  exact List.pairwise_iff_getElem.mp nd j i hjl hi hji (e1.trans e2)
 rw[e3,decide_eq_false (adf.mpr hm.2)]
 rcases h3 with h3 |h3
 ·rw[decide_eq_false (adf.mpr h3)];rfl
 ·rw[decide_eq_false (abI.mpr h3),agC];rfl
/-! where a bO may be -/
def bM(W:Ws):Ops:=W.map some++[none]
theorem z'{α:Type}{x o:α}{l a b:List α}(e:x::l=a++o::b):(a=[]∧o=x∧b=l)∨∃ a',a=x::a'∧l=a'++o::b:=by
 cases a with
 |nil=>obtain⟨rfl,rfl⟩:=abU.inj e;exact .inl ⟨rfl,rfl,rfl⟩
 |cons y a=>obtain⟨rfl,rfl⟩:=abU.inj e;exact .inr ⟨a,rfl,rfl⟩
theorem mZ{R:Ops}{o:Option (Int×By)}{b:Ops}:∀ {W:Ws} {a:Ops},bM W++R=a++o::b->(bT λW1 W2=>aO (a=W1.map some) (W=W1++W2) (o=W2.head?))∨∃ a',a=bM W++a'∧R=a'++o::b
 | [],a,e=>by
  rcases z' e with ⟨rfl,rfl,_⟩ | ⟨a',rfl,e'⟩
  ·exact .inl ⟨[],[],rfl,rfl,rfl⟩
  ·exact .inr ⟨a',rfl,e'⟩
 |w::W,a,e=>by
  rcases z' e with ⟨rfl,rfl,_⟩ | ⟨a',rfl,e'⟩
  ·exact .inl ⟨[],w::W,rfl,rfl,rfl⟩
  ·rcases mZ (W:=W) e' with ⟨W1,W2,rfl,rfl,rfl⟩ | ⟨a2,rfl,e2⟩
   ·exact .inl ⟨w::W1,W2,rfl,rfl,rfl⟩
   ·exact .inr ⟨a2,rfl,e2⟩
theorem Aa(os:Ops)(W:Ws):dw (os++W.map some)=dw os:=by
 unfold dw
 rw[abH,show(W.map some).filter (·.isNone)=[] from acW.mpr λo ho=>by obtain⟨w,_,rfl⟩:=aau.mp ho;exact abe,aar]
theorem o9{os:Ops}(h:(sp os).2=[])(W:Ws):aO (sp (os++bM W)=((sp os).1++W,[])) (bw (os++bM W)=bw os++W) (dw (os++bM W)=dw os+1):=by
 have hw:jf (W.map some):=λo ho=>by obtain⟨w,_,rfl⟩:=aau.mp ho;rfl
 have ew:bw (W.map some)=W:=by unfold bw;rw[ahX];exact ahG
 unfold bM
 rw[<-aaf,jW,o7,fO,zO,Aa,(mU _ _ hw).1,ew,h]
 exact⟨rfl,rfl,rfl⟩
theorem pa{os:Ops}(h:(sp os).2=[])(W:Ws):aO (sp (os++W.map some)=((sp os).1,W)) (bw (os++W.map some)=bw os++W) (dw (os++W.map some)=dw os):=by
 have hw:jf (W.map some):=λo ho=>by obtain⟨w,_,rfl⟩:=aau.mp ho;rfl
 have ew:bw (W.map some)=W:=by unfold bw;rw[ahX];exact ahG
 rw[fO,(mU _ _ hw).1,ew,h]
 exact⟨rfl,rfl,Aa os W⟩
def bK(v:Int->By)(ns:List Int):Ws:=(aaw ns.length).map λ(k:Nat)=>((1:Int)+1+(k:Int),v (ns.getD k 0))
def eN(v:Int->By)(ns:List Int):Ws:=(aaw ns.length).map λ(k:Nat)=>(ns.getD k 0,v (ns.getD k 0))
abbrev da(ns:List Int):Ws:=[((1:Int),ck ns 16)]
theorem tm(v:Int->By)(ns:List Int):cw 1 16 v ns=bM (bK v ns)++(bM (da ns)++(bM (eN v ns)++(bM (da [])++[]))):=by
 unfold cw bM bK eN dF dT
 rw[abP,abP]
 rfl
abbrev Dt(k:Int):Prop:=k<1∨5<=k
def iD(d g:Int->By):Prop:=g 1=zeros 16∧∀ k,Dt k->g k=d k
def lg(d v:Int->By)(ns:List Int)(g:Int->By):Prop:=aO (g 1=ck ns 16) (∀ i:Nat,i<ns.length->g (1+1+(i:Int))=v (ns.getD i 0)) (∀ k,Dt k->k ∉ ns->g k=d k)
def Res(d v:Int->By)(ns:List Int)(n t:Bool)(g:Int->By):Prop:=match n,t with
 |false,false=>iD d g
 |true,true=>lg d v ns g
 |true,false=>iD v g
 |false,true=>False
section
variable {d v:Int->By} {ns:List Int}
theorem m3{q:Int×By}(h:q∈bK v ns):∃ i:Nat,aO (i<ns.length) (q.1=1+1+(i:Int)) (q.2=v (ns.getD i 0)):=by
 obtain⟨i,hi,rfl⟩:=aau.mp h
 exact⟨i,abm.mp hi,rfl,rfl⟩
theorem tu{q:Int×By}(h:q∈eN v ns):q.1∈ns∧q.2=v q.1:=by
 obtain⟨i,hi,rfl⟩:=aau.mp h
 exact⟨getD_mem (abm.mp hi),rfl⟩
theorem tx{l:Ws}(hl:ns.length<=3)(h1:d 1=zeros 16)(h:∀ q∈l,q∈bK v ns):iD d (aM l d):=by
 refine⟨(jU λq hq e=>?_).trans h1,λk hk=>jU λq hq e=>?_⟩
 ·obtain⟨i,_,e1,_⟩:=m3 (h q hq)
  lia
 ·obtain⟨i,hi,e1,_⟩:=m3 (h q hq)
  rcases hk with hk |hk<;>lia
theorem tA{l:Ws}(hl:ns.length<=3)(hn:∀ k∈ns,Dt k)(h:∀ q∈l,q∈bK v ns∨q=(1,ck ns 16)∨q∈eN v ns)(h1:(1,ck ns 16)∈l)(h2:∀ q∈bK v ns,q∈l):lg d v ns (aM l d):=by
 refine⟨mW (λq hq e=>?_) (.inl ⟨_,h1,rfl⟩),λi hi=>mW (λq hq e=>?_) (.inl ⟨_,h2 _ (aau.mpr ⟨i,abm.mpr hi,rfl⟩),rfl⟩),λk hk hkn=>jU λq hq e=>?_⟩
 ·rcases h q hq with h |rfl |h
  ·obtain⟨i,_,e1,_⟩:=m3 h
   lia
  ·rfl
  ·have:=hn _ (tu h).1
   rcases this with h |h<;>lia
 ·rcases h q hq with h |rfl |h
  ·obtain⟨m,hm,e1,e2⟩:=m3 h
   obtain rfl:m=i:=by lia
   exact e2
  ·have e:(1:Int)=1+1+(i:Int):=e
   lia
  ·have:=hn _ (tu h).1
   rcases this with h |h<;>lia
 ·rcases h q hq with h |rfl |h
  ·obtain⟨m,hm,e1,_⟩:=m3 h
   rcases hk with hk |hk<;>lia
  ·have e:(1:Int)=k:=e
   rcases hk with hk |hk<;>lia
  ·exact hkn (e▸(tu h).1)
theorem QZ(hl:ns.length<=3)(hD:∀ k,k ∉ ns->v k=d k):iD v (aM (bw (cw 1 16 v ns)) d):=by
 refine⟨?_,λk hk=>th (z:=4) (by lia) hk (hD k)⟩
 have e:bw (cw 1 16 v ns)=bw (dF 1 v ns ns.length++[none])++(bw [some ((1:Int),ck ns 16),none]++(bw (dT v ns ns.length++[none])++[((1:Int),ck [] 16)])):=
  (fO _ _).trans (congrArg _ ((fO _ _).trans (congrArg _ (fO _ _))))
 rw[e,<-aaf,<-aaf,kS]
 unfold upd
 rw[if_pos rfl]
 exact zy (by decide)
theorem iE(W:Ws):bw (bM W)=W:=(o9 (os:=[]) rfl W).2
theorem Q0(hl:ns.length<=3)(hD:∀ k,k ∉ ns->v k=d k):iD v (aM ((bK v ns++da ns++eN v ns)++da []) d):=by
 have:=QZ hl hD
 rw[tm,fO,fO,fO,aar,iE,iE,iE,iE,<-aaf,<-aaf]at this
 exact this
theorem Ab{a b:Ops}{o:Option (Int×By)}(e:cw 1 16 v ns=a++o::b):d9 λ(P W1 W2:Ws) (i:Nat)=>gd (sp a=(P,W1)) (bw a=P++W1) (dw a=i) (o=W2.head?)
  ((aO (i=0) (P=[]) (bK v ns=W1++W2)∨aO (i=1) (P=bK v ns) (da ns=W1++W2))∨(aO (i=2) (P=bK v ns++da ns) (eN v ns=W1++W2)∨aO (i=3) (P=bK v ns++da ns++eN v ns) (da []=W1++W2))):=by
 rw[tm]at e
 have p0:(sp ([]:Ops)).2=[]:=rfl
 have q1:=o9 p0 (bK v ns)
 rw[List.nil_append]at q1
 have p1:(sp (bM (bK v ns))).2=[]:=by rw[q1.1]
 have q2:=o9 p1 (da ns)
 have p2:(sp (bM (bK v ns)++bM (da ns))).2=[]:=by rw[q2.1]
 have q3:=o9 p2 (eN v ns)
 have p3:(sp (bM (bK v ns)++bM (da ns)++bM (eN v ns))).2=[]:=by rw[q3.1]
 have r1:(sp (bM (bK v ns))).1=bK v ns:=congrArg aei q1.1
 have r2:(sp (bM (bK v ns)++bM (da ns))).1=bK v ns++da ns:=by rw[q2.1,r1]
 have r3:(sp (bM (bK v ns)++bM (da ns)++bM (eN v ns))).1=bK v ns++da ns++eN v ns:=by rw[q3.1,r2]
 have s1:bw (bM (bK v ns))=bK v ns:=iE _
 have s2:bw (bM (bK v ns)++bM (da ns))=bK v ns++da ns:=by rw[q2.2,s1]
 have s3:bw (bM (bK v ns)++bM (da ns)++bM (eN v ns))=bK v ns++da ns++eN v ns:=by rw[q3.2,s2]
 have f1:dw (bM (bK v ns))=1:=q1.3
 have f2:dw (bM (bK v ns)++bM (da ns))=2:=by rw[q2.3,f1]
 have f3:dw (bM (bK v ns)++bM (da ns)++bM (eN v ns))=3:=by rw[q3.3,f2]
 rcases mZ e with ⟨W1,W2,rfl,e2,e3⟩ | ⟨a1,rfl,x1⟩
 ·obtain⟨t1,t2,t3⟩:=pa p0 W1
  exact⟨_,W1,W2,0,t1,t2,t3,e3,.inl (.inl ⟨rfl,rfl,e2⟩)⟩
 rcases mZ x1 with ⟨W1,W2,rfl,e2,e3⟩ | ⟨a2,rfl,x2⟩
 ·obtain⟨t1,t2,t3⟩:=pa p1 W1
  exact⟨_,W1,W2,1,by rw[t1,r1],by rw[t2,s1],t3.trans f1,e3,.inl (.inr ⟨rfl,rfl,e2⟩)⟩
 rcases mZ x2 with ⟨W1,W2,rfl,e2,e3⟩ | ⟨a3,rfl,x3⟩
 ·obtain⟨t1,t2,t3⟩:=pa p2 W1
  rw[<-aaf]
  exact⟨_,W1,W2,2,by rw[t1,r2],by rw[t2,s2],t3.trans f2,e3,.inr (.inl ⟨rfl,rfl,e2⟩)⟩
 rcases mZ x3 with ⟨W1,W2,rfl,e2,e3⟩ | ⟨a4,rfl,x4⟩
 ·obtain⟨t1,t2,t3⟩:=pa p3 W1
  rw[<-aaf,<-aaf]
  exact⟨_,W1,W2,3,by rw[t1,r3],by rw[t2,s3],t3.trans f3,e3,.inr (.inr ⟨rfl,rfl,e2⟩)⟩
 ·cases a4<;>contradiction
def jY(fl:Bool)(n c m:Nat):Bool:=if fl then decide (1<c)||(decide (c=1)&&decide (m=1))else decide (n<c)
def jZ(fl:Bool)(n c m:Nat):Bool:=if fl then (decide (c=1)&&decide (m=1))||(decide (c=2)||(decide (c=3)&&decide (m=0)))else decide (n<c)
theorem Ac{n c m:Nat}{g:Int->By}(h:lg d v ns g)(hc:n<c):Res d v ns (jY false n c m) (jZ false n c m) g:=by
 show Res d v ns (decide (n<c)) (decide (n<c)) g
 rw[decide_eq_true hc];exact h
theorem Ad{n c m:Nat}{g:Int->By}(h:iD d g)(hc:c<=n):Res d v ns (jY false n c m) (jZ false n c m) g:=by
 show Res d v ns (decide (n<c)) (decide (n<c)) g
 rw[decide_eq_false (aiz.mpr hc)];exact h
theorem lh:(bK v ns).length=ns.length:=by unfold bK;rw[aad,aap]
theorem Ae:(eN v ns).length=ns.length:=by unfold eN;rw[aad,aap]
theorem Af{w:Int×By}{W1 W2:Ws}(e:[w]=W1++W2):(W1=[]∧W2=[w])∨(W1=[w]∧W2=[]):=by
 cases W1 with
 |nil=>exact .inl ⟨rfl,e.symm⟩
 |cons x W1=>
  obtain⟨rfl,e2⟩:=abU.inj e
  obtain⟨rfl,rfl⟩:=List.append_eq_nil_iff.mp e2.symm
  exact .inr ⟨rfl,rfl⟩
theorem Q2{a b:Ops}{o:Option (Int×By)}{fl:Bool}{c m:Nat}{sel:Ws}(hl:ns.length<=3)(hn:∀ k∈ns,Dt k)(h1:d 1=zeros 16)(hD:∀ k,k ∉ ns->v k=d k)(e:cw 1 16 v ns=a++o::b)
  (hc:(aO (fl=true) (o=none) (dw a=c))∨aO (fl=false) (o.isSome=true) ((bw a).length=c)) (hs:∀ q∈sel,q∈(sp a).2) (hm:m<2 ^ (sp a).2.length) (h2:(sp a).2.length=1->(m=0->sel=[])∧(m=1->sel=(sp a).2)):
  Res d v ns (jY fl ns.length c m) (jZ fl ns.length c m) (aM sel (aM (sp a).1 d)):=by
 obtain⟨P,W1,W2,i,e1,e2,e3,rfl,hi⟩:=Ab e
 rw[e1]at hs h2 hm ⊢
 show Res d v ns _ _ (aM sel (aM P d))
 rw[<-zP]
 have w1:∀ q∈sel,q∈W1:=hs
 have hm:m<2 ^ W1.length:=hm
 have h2:W1.length=1->(m=0->sel=[])∧(m=1->sel=W1):=h2
 rw[e2,aag,e3]at hc
 rcases hi with (⟨rfl,rfl,hW⟩ | ⟨rfl,rfl,hW⟩) | (⟨rfl,rfl,hW⟩ | ⟨rfl,rfl,hW⟩)
 ·have old:iD d (aM ([]++sel) d):=tx (v:=v) hl h1 λq hq=>by rw[hW];exact aao _ (w1 q hq)
  rcases hc with ⟨rfl,ho,rfl⟩ | ⟨rfl,ho,rfl⟩
  ·exact old
  ·refine Ad old ?_
   rw[<-lh (v:=v),hW,aag]
   show 0+W1.length<=_
   lia
 ·rcases Af hW with ⟨rfl,rfl⟩ | ⟨rfl,rfl⟩
  ·have:sel=[]:=afV.mpr λq hq=>nomatch w1 q hq
   subst this
   have old:iD d (aM (bK v ns++[]) d):=tx (v:=v) hl h1 λq hq=>by rwa [aar]at hq
   rcases hc with ⟨rfl,ho,rfl⟩ | ⟨rfl,ho,rfl⟩
   ·contradiction
   ·exact Ad old (by rw[lh];exact aaZ _)
  ·rcases hc with ⟨rfl,ho,rfl⟩ | ⟨rfl,ho,rfl⟩
   ·have hm:m<2:=hm
    match m,hm,h2 rfl with
    | 0,_,h2=>
     rw[h2.1 rfl]
     exact(tx (v:=v) hl h1 λq hq=>by rwa [aar]at hq:iD d (aM (bK v ns++[]) d))
    | 1,_,h2=>
     rw[h2.2 rfl]
     exact(tA hl hn (λq hq=>(aav.mp hq).elim .inl λz=>.inr (.inl (aaP.mp z))) (aac _ (.head _)) λq hq=>aao _ hq:lg d v ns (aM (bK v ns++da ns) d))
   ·contradiction
 ·have told:lg d v ns (aM ((bK v ns++da ns)++sel) d):=tA hl hn (λq hq=>by
   rcases aav.mp hq with hq |hq
   ·exact(aav.mp hq).elim .inl λz=>.inr (.inl (aaP.mp z))
   ·exact .inr (.inr (by rw[hW];exact aao _ (w1 q hq)))) (aao _ (aac _ (.head _))) λq hq=>aao _ (aao _ hq)
  rcases hc with ⟨rfl,ho,rfl⟩ | ⟨rfl,ho,rfl⟩
  ·exact told
  ·refine Ac told ?_
   rw[aag,lh]
   show _<ns.length+1+W1.length
   lia
 ·have told:lg d v ns (aM ((bK v ns++da ns++eN v ns)++[]) d):=tA hl hn (λq hq=>by
   rw[aar]at hq
   rcases aav.mp hq with hq |hq
   ·exact(aav.mp hq).elim .inl λz=>.inr (.inl (aaP.mp z))
   ·exact .inr (.inr hq)) (aao _ (aao _ (aac _ (.head _)))) λq hq=>aao _ (aao _ (aao _ hq))
  rcases Af hW with ⟨rfl,rfl⟩ | ⟨rfl,rfl⟩
  ·have:sel=[]:=afV.mpr λq hq=>nomatch w1 q hq
   subst this
   rcases hc with ⟨rfl,ho,rfl⟩ | ⟨rfl,ho,rfl⟩
   ·contradiction
   ·refine Ac told ?_
    rw[aag,aag,lh]
    show _<ns.length+1+_+0
    lia
  ·rcases hc with ⟨rfl,ho,rfl⟩ | ⟨rfl,ho,rfl⟩
   ·have hm:m<2:=hm
    match m,hm,h2 rfl with
    | 0,_,h2=>
     rw[h2.1 rfl]
     exact told
    | 1,_,h2=>
     rw[h2.2 rfl]
     exact Q0 hl hD
   ·contradiction
end
section
variable {st:St}
theorem jh{i:Nat}{op:CmpOp}{c k:Int}{r:Bool}(e0:st.lo[i]? =some (some (.int c)))(e:cF op (.int c) (.int k) st=.ok r st):dY (Lite.ae i) [op] [aak (V.int k)] st=.ok (.bool r) st:=by
 have e1:Lite.ae i st=.ok (.int c) st:=by unfold Lite.ae;rw[e0]
 show(Lite.ae i>>=λa=>aV a [op] [aak (V.int k)]>>=λb=>aak (V.bool b)) st=_
 rw[cb e1]
 have e2:aV (.int c) [op] [aak (V.int k)] st=.ok r st:=by
  show(cF op (.int c) (.int k)>>=λt=>if ([]:List CmpOp).isEmpty then aak t else if t then aV (.int k) [] []else aak false) st=_
  rw[cb e];rfl
 rw[cb e2];rfl
theorem tB{a b:M V}{x y:Bool}(ea:a st=.ok (.bool x) st)(eb:b st=.ok (.bool y) st):gs .And [a,b] st=.ok (.bool (x&&y)) st:=by
 show(a>>=_) st=_
 rw[cb ea]
 cases x
 ·rfl
 ·exact eb
theorem tC{a:M V}{b:List (M V)}{x y:Bool}(hb:b.isEmpty=false)(ea:a st=.ok (.bool x) st)(eb:gs .Or b st=.ok (.bool y) st):gs .Or (a::b) st=.ok (.bool (x||y)) st:=by
 cases b with
 |nil=>contradiction
 |cons b bs=>
  show(a>>=_) st=_
  rw[cb ea]
  cases x
  ·exact eb
  ·rfl
end
theorem cI{c k:Nat}:decide ((c:Int)=(k:Int))=decide (c=k):=decide_eq_decide.mpr Int.ofNat_inj
theorem cG{c k:Nat}:decide ((c:Int)>(k:Int))=decide (k<c):=decide_eq_decide.mpr acG
section
variable {X:Xp} {lo:Lo} {H:Hp} {C:Ct}
abbrev Q3(C:Ct)(D:Addr)(k:Nat)(f:Addr)(args:List (M V))(Q:V->Sp)(X:Xp):V->Sp:=λov s=>bT λa fs=>cB (ov=.ref a) (s.H[a]? =some (.inst D fs)) ((fs.lookup k).isNone=true) (Wq (Lite.bD args s) (yF C f a Q X) X)
theorem Q4{Q:V->Sp}{D:Addr}{nm:Str}{k:Nat}{f:Addr}{o:M V}{args:List (M V)}(i:bL D nm k f)(ec:P0.cls.lookup f=none)
  (h:Wq (o ⟨lo,H⟩) (Q3 C D k f args Q X) X):Wq (Lite.aH P0 C o nm args ⟨lo,H⟩) Q X:=by
 refine kN (h.mono (λov s q=>?_) λ_ _ q=>q)
 obtain⟨a,fs,rfl,e,e2,q⟩:=q
 exact yo e i.s e2 i.m (q.mono (λas s'' q=>gy ec q) λ_ _ q=>q)
end
theorem Q5{B:Int}{d v g:Int->By}{ns:List Int}{nw tl:Bool}(hB:5<=B∧B<=10)(hl:ns.length<=3)(nd:ns.Nodup)(hn:∀ k∈ns,aO (0<=k) (k<B) (k<1∨1+4<=k))(hD:∀ k,k ∉ ns->v k=d k)(h:Res d v ns nw tl g):
  fM (g 1) 3 B 1 4=some (if tl then ns else [])∧cn B (aM (k7 g 1 16 (if tl then ns else [])) g)=cn B (if nw then v else d):=by
 cases nw<;>cases tl
 ·exact⟨by rw[show g 1=zeros 16 from h.1];exact zL (m:=3) rfl (by decide),jX (λk _ _ hk=>h.2 k hk) hB.1⟩
 ·exact h.elim
 ·exact⟨by rw[show g 1=zeros 16 from h.1];exact zL (m:=3) rfl (by decide),jX (λk _ _ hk=>h.2 k hk) hB.1⟩
 ·refine⟨by rw[show g 1=ck ns 16 from h.1];exact QY hl hB.2 nd hn,jX (λk _ _ hk=>?_) hB.1⟩
  show aM (k7 g 1 16 ns) g k=v k
  refine mW (λq hq e=>?_) ?_
  ·unfold k7 at hq
   rcases aav.mp hq with hq |hq
   ·obtain⟨i,hi,rfl⟩:=aau.mp hq
    have:=h.2 i (abm.mp hi)
    have e:ns.getD i 0=k:=e
    rw[<-e];exact this
   ·split at hq
    ·contradiction
    ·obtain rfl:=aaP.mp hq
     have e:(1:Int)=k:=e
     lia
  ·by_cases m:k∈ns
   ·obtain⟨i,hi⟩:=abG m
    exact .inl ⟨(ns.getD i 0,g (1+1+i)),aao _ (aau.mpr ⟨i,abm.mpr (aan.mp hi).1,rfl⟩),by show ns.getD i 0=k;rw[aat,hi];rfl⟩
   ·exact .inr ((h.3 k hk m).trans (hD k m).symm)
abbrev gE(tv tr:Nat)(ca:Int)(fl:Bool)(c:Int)(dk tn:Nat)(x7 x8:Option V)(tO tw:Nat)(mn:Int)(x12 x13 x14 x15 x16:Option V):Lo:=[some (.ref tv),some (.ref tr),some (.int ca),some (.bool fl),some (.int c),some (.ref dk),some (.ref tn),x7,x8,some (.ref tO),some (.ref tw),some (.int mn),x12,x13,x14,x15,x16,none,none,none,none,none,none,none,none,none]
theorem j6{c k:Int}{st:St}:cF .Eq (.int c) (.int k) st=.ok (decide (c=k)) st:=by
 show R.ok (c==k) st=_
 rw[sW]
theorem Q6{n c m:Nat}:(decide ((c:Int)>1)||(decide ((c:Int)=1)&&decide ((m:Int)=1)))=jY true n c m:=by
 rw[show decide ((c:Int)>1)=decide (1<c) from cG (k:=1),show decide ((c:Int)=1)=decide (c=1) from cI (k:=1),show decide ((m:Int)=1)=decide (m=1) from cI (k:=1)];rfl
theorem Q7{n c m:Nat}:((decide ((c:Int)=1)&&decide ((m:Int)=1))||(decide ((c:Int)=2)||(decide ((c:Int)=3)&&decide ((m:Int)=0))))=jZ true n c m:=by
 rw[show decide ((c:Int)=1)=decide (c=1) from cI (k:=1),show decide ((m:Int)=1)=decide (m=1) from cI (k:=1),show decide ((c:Int)=2)=decide (c=2) from cI (k:=2),show decide ((c:Int)=3)=decide (c=3) from cI (k:=3),show decide ((m:Int)=0)=decide (m=0) from cI (k:=0)];rfl
structure pb(sd:Dk)(B:Int)(d v:Int->By)(ns:List Int)(fl:Bool)(c:Nat):Prop where
 eB:sd.B=B
 eS:sd.S=16
 kv:∀ x v,sd.ke.lookup x=some v->∃ b,v=.bytes b∧(b.length:Int)=sd.S
 uz:∀ t∈sd.un,(t.2.2.length:Int)=sd.S
 ke:di sd.B sd.ke
 un:∀ t∈sd.un,0<=t.2.1∧t.2.1<sd.B
 ul:sd.un.length<=3
 g:∀ m:Nat,m<2 ^ sd.un.length->Res d v ns (jY fl ns.length c m) (jZ fl ns.length c m) (bytesAt sd.S (dR (d8 (cT m sd.un.length) sd.un sd.un.length) sd.ke))
structure lj(B:Int)(d v:Int->By)(ns:List Int):Prop where
 b:5<=B∧B<=10
 l:ns.length<=3
 nd:ns.Nodup
 n:∀ k∈ns,aO (0<=k) (k<B) (k<1∨1+4<=k)
 D:∀ k,k ∉ ns->v k=d k
section
variable {X:Xp} {lo:Lo} {H:Hp} {n:Nat} {F:List Cl}
theorem Q8{Q:V->Sp}{s:Dk}(h:Holds H (av s++F))(ok:bR s)(hB:5<=s.B)(hS:s.S=16)(e0:lo[13]? =some (some (.ref s.dk)))
  (q:∀ H' c j,Cm s c->gd (j.start=1) (j.size=4) (j.places=3) (j.calls=0) (j.ns=[])->Holds H' (aN c.ca j++DC s c F)->Q (.ref j.jo) ⟨lo,H'⟩):
  Wq (ay P0 (Rn 8 n) (V.ah 218) [ay P0 (Rn 8 n) (V.ah 435) [ae 13,pure (V.int 8)],pure (V.int 1),pure (V.int 4)] ⟨lo,H⟩) Q X:=by
 refine aR<|au<|aR<|au<|aj e0<|ba rfl<|kY (init:=334) rfl h λH tc h=>zC h (by decide) λH row cj h=>⟨rfl,ba rfl ?_⟩
 have y:Cm s (jd tc row cj 8 s.S):=⟨⟨⟨ok,⟨abC,λ_ z=>(nomatch z),λ_ z=>(nomatch z),λ_ z=>(nomatch z)⟩,λ_ z=>(nomatch z),λ_=>rfl,di.nil,show(0:Int)<=8 by decide,show(8:Int)<=1000 by decide,rfl⟩,λ_ z=>(nomatch z)⟩,λ_=>rfl,show(0:Int)<8 by decide⟩
 refine kY (init:=131) rfl h λH t h=>?_
 show Cq (Rn (7+1) n (.ah 131) [.ref t,.ref tc,.int 1,.int 4] H) _ X
 rw[Jf,<-xJ]
 exact zE (c:=jd tc row cj 8 s.S) (e:=.none) h hS rfl hB (.inl rfl) λH nums fG ea _ h=>⟨rfl,q H (jd tc row cj 8 s.S) ⟨t,nums,fG,1,4,3,3,ea,0,0,[],[]⟩ y ⟨rfl,rfl,rfl,rfl,rfl⟩ h⟩
end
section
variable {F:List Cl} {H:Hp} {n:Nat} {X:Xp}
variable {B:Int} {d v:Int->By} {ns:List Int} {tv tr tn tO tw c m:Nat} {ca:Int} {x7 x8:Option V}
theorem Q9{Q:Fl->Sp}{s0:Dk}{fl nw tl:Bool}{dk:Nat}{mn:Int}{x12 x16:Option V}{g:Int->By}(I:lj B d v ns)(h:Holds H (av s0++F))(ok:bR s0)(eB:s0.B=B)(eS:s0.S=16)(ew:s0.w=0)(ela:s0.la=none)(elf:s0.lf=none)(eu:s0.un=[])(hg:∀ k,aI s0 k=g k)(R:Res d v ns nw tl g)
  (hn:(tn,O.list (ns.map V.int))∈F) (hO:(tO,O.list ((cn B d).map V.bytes))∈F) (hw:(tw,O.list ((cn B v).map V.bytes))∈F)
  (q:∀ H' x16,Holds H' F->Q .next ⟨gE tv tr ca fl c dk tn x7 x8 tO tw mn x12 (some (.ref s0.dk)) (some (.bool nw)) (some (.bool tl)) x16,H'⟩):
  Wq (ax (rU (Rn 8 n)) ⟨gE tv tr ca fl c dk tn x7 x8 tO tw mn x12 (some (.ref s0.dk)) (some (.bool nw)) (some (.bool tl)) x16,H⟩) Q X:=by
 obtain⟨B5,B10⟩:=I.b
 obtain⟨hr,hd⟩:=Q5 I.b I.l I.nd I.n I.D R
 rw[show g=aI s0 from(funext hg).symm]at hr hd
 refine ag<|aY<|Q4 Of rfl<|Q8 h ok (by rw[eB];exact B5) eS rfl λH c1 j y ej h=>⟨_,_,rfl,aU h,rfl,ar ?_⟩
 obtain⟨j1,j2,j3,j4,j5⟩:=ej
 refine Qb (m:=3) (ns:=if tl then ns else []) h y ⟨by rw[j1];decide,by rw[j1,j2,eB];exact B5,by rw[j2];decide,eS,by decide,by rw[j3,j2];decide,j4,j5⟩ ela elf (by rw[ew];decide) eu (by unfold gW.rd;rw[j1,j2,j3,eB];exact hr) λH t2 s' c2 y2 D ca2 h=>aF ?_
 rw[j1,eS]at D
 have hd:cn s'.B (aI s')=cn B (if nw then v else d):=by
  rw[<-hd,D.B,eB]
  exact congrArg _ (funext D.lt)
 have h:=gU (cL (push h))
 rw[<-D.dk]at q ⊢
 have mem:∀ {y:Cl},y∈(t2,O.list ((if tl=true then ns else []).map V.int))::F->y∈av s'++(d7 s' c2++(aN c2.ca j++((t2,O.list ((if tl=true then ns else []).map V.int))::F))):=λm=>aac _ (aac _ (aac _ m))
 have fin:∀ {H:Hp},Holds H (av s'++(d7 s' c2++(aN c2.ca j++((t2,O.list ((if tl=true then ns else []).map V.int))::F))))->Wq (allM .Or [(ay P0 (Rn 8 n) (V.ah 584) [ae 13])>>=λa=>aV a [.NotEq] [gQ ((ae 14)>>=truth) (ae 10) (ae 9)]] ⟨gE tv tr ca fl c dk tn x7 x8 tO tw mn x12 (some (.ref s'.dk)) (some (.bool nw)) (some (.bool tl)) (some (.ref t2)),H⟩) (my (bQ [] Q X)) X:=λh=>by
  refine o3<|af<|fo rfl rfl ?_
  refine z7 h y2.r.ok.dk (by rw[D.B,eB];exact B5) λH t3 h=>bu<|gR<|af<|aj rfl<|du ?_
  rw[hd]at h
  have q2:∀ {H:Hp},Holds H ((t3,O.list ((cn B (if nw=true then v else d)).map V.bytes))::(av s'++(d7 s' c2++(aN c2.ca j++((t2,O.list ((if tl=true then ns else []).map V.int))::F)))))->(my (bQ [] Q X)) false ⟨gE tv tr ca fl c dk tn x7 x8 tO tw mn x12 (some (.ref s'.dk)) (some (.bool nw)) (some (.bool tl)) (some (.ref t2)),H⟩:=λh=>⟨rfl,fj (X:=X) (q _ _ (h.sub (.cons _ ((acq _ _).trans ((aaG _ _).trans ((aaG _ _).trans (aaG _ _)))))))⟩
  cases nw with
  |true=>exact aj rfl<|kW (r:=true) ((kU (sY 2) (acm (h.kT (mem (.tail _ hw)))) h.hd (h.get (.tail _ (mem (.tail _ hw))))).trans (congrArg some (decide_eq_true rfl))) (q2 h)
  |false=>exact aj rfl<|kW (r:=true) ((kU (sY 2) (acm (h.kT (mem (.tail _ hO)))) h.hd (h.get (.tail _ (mem (.tail _ hO))))).trans (congrArg some (decide_eq_true rfl))) (q2 h)
 refine ag<|dC<|dD<|af<|aj rfl<|bu<|gR<|af<|aj rfl<|du ?_
 have ht:=h.get (mem (.head _))
 have hs:=h.sub ((aaG (aN c2.ca j) _).trans ((aaG (d7 s' c2) _).trans (aaG (av s') _)))
 cases tl with
 |true=>exact aj rfl<|kW (r:=true) ((kU (sX 2) (acm (hs.kT hn)) ht (h.get (mem (.tail _ hn)))).trans (congrArg some (decide_eq_true rfl))) (fin h)
 |false=>exact eU (c:=av s'++(d7 s' c2++(aN c2.ca j++((t2,O.list (([]:List Int).map V.int))::F))))<|ar ⟨rfl,h,λH t4 h=>kW (r:=true) ((kU (xs:=([]:List Int)) (ys:=[]) (sX 2) (h.kT (mem (.head _))) (h.get (.tail _ (mem (.head _)))) h.hd).trans (congrArg some (decide_eq_true rfl))) (fin h.bg)⟩
end
section
variable {F:List Cl} {H:Hp} {n:Nat} {X:Xp}
variable {B:Int} {d v:Int->By} {ns:List Int} {tv tr tn tO tw c m:Nat} {ca:Int} {x7 x8:Option V}
theorem Ra{Q:Fl->Sp}{fl:Bool}{dk:Nat}{mn:Int}{x13:Nat}{x14 x15 x16:Option V}(h:Holds H F)(hl:ns.length<=3)(hn:(tn,O.list (ns.map V.int))∈F)
  (q:∀ H',Holds H' F->Wq (ax (rU (Rn 8 n)) ⟨gE tv tr ca fl c dk tn x7 x8 tO tw mn (some (.int m)) (some (.ref x13)) (some (.bool (jY fl ns.length c m))) (some (.bool (jZ fl ns.length c m))) x16,H'⟩) Q X):
  Wq (ax (xU (Rn 8 n)) ⟨gE tv tr ca fl c dk tn x7 x8 tO tw mn (some (.int m)) (some (.ref x13)) x14 x15 x16,H⟩) Q X:=by
 refine ag<|cR<|af<|aj rfl<|du ?_
 cases fl with
 |true=>
  refine ag<|aY<|sq (c:=F)<|au<|ba (v:=.bool (jY true ns.length c m)) ?_<|au<|ba (v:=.bool (jZ true ns.length c m)) ?_<|ar ⟨rfl,h,λH t h=>d6 h.hd<|aF<|aF ?_⟩
  ·rw[<-Q6]
   exact tC rfl (jh rfl rfl) (tB (jh rfl j6) (jh rfl j6))
  ·rw[<-Q7]
   exact tC rfl (tB (jh rfl j6) (jh rfl j6)) (tC rfl (jh rfl j6) (tB (jh rfl j6) (jh rfl j6)))
  ·exact q H h.bg
 |false=>
  have hll:(ns.map V.int).length<=lim:=by rw[aad];exact aah hl (b6 rfl)
  have e:decide ((c:Int)>((ns.map V.int).length:Int))=decide (ns.length<c):=by rw[aad];exact cG
  refine ag<|aY<|sq (c:=F)<|au<|jJ<|aj rfl<|aR<|ba rfl<|fK (h.get hn) hll<|iZ e<|au<|jJ<|aj rfl<|aR<|ba rfl<|fK (h.get hn) hll<|iZ e<|ar ⟨rfl,h,λH t h=>d6 h.hd<|aF<|aF ?_⟩
  exact q H h.bg
theorem Rb{Q:Fl->Sp}{sd:Dk}{fl:Bool}{x13 x14 x15 x16:Option V}(I:lj B d v ns)(D:pb sd B d v ns fl c)(h:Holds H (av sd++F))(hm:m<2 ^ sd.un.length)
  (hn:(tn,O.list (ns.map V.int))∈F) (hO:(tO,O.list ((cn B d).map V.bytes))∈F) (hw:(tw,O.list ((cn B v).map V.bytes))∈F)
  (q:∀ H' x13 x14 x15 x16,Holds H' (av sd++F)->Q .next ⟨gE tv tr ca fl c sd.dk tn x7 x8 tO tw sd.un.length (some (.int m)) x13 x14 x15 x16,H'⟩):
  Wq (ax (xV (Rn 8 n)) ⟨gE tv tr ca fl c sd.dk tn x7 x8 tO tw sd.un.length (some (.int m)) x13 x14 x15 x16,H⟩) Q X:=by
 obtain⟨B5,B10⟩:=I.b
 have dB:=D.eB;have dS:=D.eS;have ul:=D.ul
 have ul9:sd.un.length<=900:=aah ul (by decide)
 refine ag<|aY<|aW Om rfl rfl<|aj rfl ⟨rfl,bq h,au<|fo rfl rfl<|P9 h ul9 λH tc h=>ar ?_⟩
 refine P4 (Holds.mid h) (.head _) (by lia) (by lia) D.ke D.un ul9 zJ.1 (aah zJ.2 ul9) λH t ka la ua h=>aF ?_
 have hG:=D.g m hm
 have hKe:di sd.B (dR (d8 (cT m sd.un.length) sd.un sd.un.length) sd.ke):=oN D.ke λt ht=>D.un t (o4 (aaZ _) ht)
 have hKv:=sU (l:=d8 (cT m sd.un.length) sd.un sd.un.length) D.kv λt ht=>D.uz t (o4 (aaZ _) ht)
 have ok0:bR (sd.kZ (cT m sd.un.length) t ka la ua):=⟨⟨by show 0<=sd.B;lia,by show sd.B<=1000;lia⟩,⟨by show 0<=sd.S;lia,by show sd.S<=1000;lia⟩,hKe,hKe,hKv,λ_ z=>(nomatch z),rfl,hKv,λ_ z=>(nomatch z)⟩
 have memF:∀ {y:Cl},y∈F->y∈av (sd.kZ (cT m sd.un.length) t ka la ua)++(av sd++((tc,O.list ((cT m sd.un.length).map V.int))::F)):=λm=>aac _ (aac _ (.tail _ m))
 refine Ra (x13:=t) h I.l (memF hn) λH h=>?_
 refine Q9 (s0:=sd.kZ (cT m sd.un.length) t ka la ua) (F:=av sd++((tc,O.list ((cT m sd.un.length).map V.int))::F)) I h ok0 dB dS rfl rfl rfl rfl (λ_=>rfl) hG (aac _ (.tail _ hn)) (aac _ (.tail _ hO)) (aac _ (.tail _ hw)) λH' x16 h=>?_
 exact q H' _ _ _ _ (h.sub (abj (aaM _) (acq _ _)))
theorem Rc{Q:Fl->Sp}{sd:Dk}{fl:Bool}{x12 x13 x14 x15 x16:Option V}(I:lj B d v ns)(D:pb sd B d v ns fl c)(h:Holds H (av sd++F))
  (hn:(tn,O.list (ns.map V.int))∈F) (hO:(tO,O.list ((cn B d).map V.bytes))∈F) (hw:(tw,O.list ((cn B v).map V.bytes))∈F)
  (q:∀ H',Holds H' F->Q (.ret (.bool true)) ⟨[],H'⟩) (qi:∀ v lo lo' H,Q (.ret v) ⟨lo,H⟩->Q (.ret v) ⟨lo',H⟩):
  Wq (ax (rV (Rn 8 n)) ⟨gE tv tr ca fl c sd.dk tn x7 x8 tO tw sd.un.length x12 x13 x14 x15 x16,H⟩) Q X:=by
 have e2:(1:Int)*2 ^ ((sd.un.length:Nat):Int).toNat=((2 ^ sd.un.length:Nat):Int):=by simp
 have e3:2 ^ sd.un.length<=2 ^ 3:=ahE (by decide) D.ul
 have ul:=D.ul
 refine ag<|jR (n:=2 ^ sd.un.length) (g:=λ(k:Nat)=>V.int k) (λi st=>gf λx12 x13 x14 x15 x16=>st.lo=gE tv tr ca fl c sd.dk tn x7 x8 tO tw sd.un.length x12 x13 x14 x15 x16∧Holds st.H (av sd++F))
  (aR<|au<|aZ<|aq<|aj rfl<|ze (by lia) (by decide)<|ar<|iz h λH r h=>⟨by rw[e2]at h;exact iA h.hd (aah e3 (by decide)),_,_,_,_,_,rfl,h.bg⟩) (λi st hi J=>?_) λst J=>?_
 ·obtain⟨_,_,_,_,_,hlo,h⟩:=J
  obtain⟨lo,H⟩:=st
  subst hlo
  exact aF<|Rb I D h hi hn hO hw λH' _ _ _ _ h=>⟨_,_,_,_,_,rfl,h⟩
 ·obtain⟨_,_,_,_,_,hlo,h⟩:=J
  obtain⟨lo,H⟩:=st
  subst hlo
  unfold bQ
  exact ag<|cQ<|aq<|qi _ _ _ _ (q H (h.sub (aaG _ _)))
end
def Stop(s:Dk)(fl:Bool)(c:Nat):Prop:=if fl then s.la=none∧s.lf=some (s.f+c)else s.la=some (s.w+c)∧s.lf=none
theorem Rd{un:List (Nat×Int×By)}(h:un.length=1):d8 [0] un 1=un:=by
 obtain⟨t,rfl⟩:=List.length_eq_one_iff.mp h
 rfl
theorem Rg{s s':Dk}{a b:Ops}{o:Option (Int×By)}{B:Int}{d v:Int->By}{ns:List Int}{fl:Bool}{c:Nat}(I:lj B d v ns)(h1:d 1=zeros 16)(hB:s.B=B)(hS:s.S=16)(hk:∀ k,bytesAt s.S s.ke k=d k)(st:Stop s fl c)(k1:bR s')(T:Tr s s' a)(bl:s9 s' o)(e:cw 1 16 v ns=a++o::b):pb s'.eJ B d v ns fl c:=by
 have hl:=I.l
 have eun:s'.un.length=(sp a).2.length:=T.iB
 have ul:(sp a).2.length<=3:=by
  obtain⟨P,W1,W2,i,e1,_,_,_,hi⟩:=Ab e
  rw[e1]
  show W1.length<=3
  rcases hi with (⟨_,_,hW⟩ | ⟨_,_,hW⟩) | (⟨_,_,hW⟩ | ⟨_,_,hW⟩)
  ·have:=congrArg aey hW
   rw[lh,aag]at this
   lia
  ·have:=congrArg aey hW
   rw[aag]at this
   have:1=W1.length+W2.length:=this
   lia
  ·have:=congrArg aey hW
   rw[Ae,aag]at this
   lia
  ·have:=congrArg aey hW
   rw[aag]at this
   have:1=W1.length+W2.length:=this
   lia
 have hc:(aO (fl=true) (o=none) (dw a=c))∨aO (fl=false) (o.isSome=true) ((bw a).length=c):=by
  cases fl with
  |true=>
   obtain⟨sla,slf⟩:s.la=none∧s.lf=some (s.f+c):=st
   cases o with
   |some w=>exact jc (T.la.trans sla) bl
   |none=>
    obtain⟨k,ek,hk2⟩:=(bl:s'.cy)
    rw[T.lf,slf]at ek
    obtain rfl:=aae.inj ek
    have:=T.nf _ slf (by lia)
    have hf:=T.f
    exact .inl ⟨rfl,rfl,by lia⟩
  |false=>
   obtain⟨sla,slf⟩:s.la=some (s.w+c)∧s.lf=none:=st
   cases o with
   |none=>exact k6 (T.lf.trans slf) bl
   |some w=>
    obtain⟨k,ek,hk2⟩:=(bl:s'.fq)
    rw[T.la,sla]at ek
    obtain rfl:=aae.inj ek
    have:=T.nw _ sla (by lia)
    have hf:=T.w
    exact .inr ⟨rfl,rfl,by lia⟩
 refine⟨T.B.trans hB,T.S.trans hS,k1.kv,k1.uz,k1.ke,k1.un,by show s'.un.length<=3;rw[eun];exact ul,λm hm=>?_⟩
 show Res d v ns _ _ (bytesAt s'.S (dR (d8 (cT m s'.un.length) s'.un s'.un.length) s'.ke))
 have hm:m<2 ^ s'.un.length:=hm
 have eg:bytesAt s'.S (dR (d8 (cT m s'.un.length) s'.un s'.un.length) s'.ke)=aM ((d8 (cT m s'.un.length) s'.un s'.un.length).map (·.2)) (aM (sp a).1 d):=funext λk=>by
  rw[oY]
  refine jV (λk=>?_) _ k
  rw[T.ke]
  exact jV hk _ k
 rw[eg]
 refine Q2 hl (λk hk=>(I.n k hk).3) h1 I.D e hc (λq hq=>?_) (by rw[<-eun];exact hm) λh2=>?_
 ·obtain⟨t,ht,rfl⟩:=aau.mp hq
  rw[<-T.un]
  exact abp (f:=λt:Nat×Int×By=>t.2) (o4 (aaZ _) ht)
 ·rw[<-eun]at h2
  refine⟨λz=>?_,λz=>?_⟩
  ·subst z
   rw[h2]
   show(d8 (cT 0 1) s'.un 1).map (·.2)=[]
   rw[P6];rfl
  ·subst z
   rw[h2]
   show(d8 (cT 1 1) s'.un 1).map (·.2)=(sp a).2
   rw[P7,Rd h2,T.un]
theorem Rh{s s':Dk}{v:Int->By}{ns:List Int}{fl:Bool}{c:Nat}(T:Tr s s' (cw 1 16 v ns))(st:Stop s fl c)(hc:if fl then c<4 else c<2*ns.length+2):False:=by
 cases fl with
 |true=>
  obtain⟨sla,slf⟩:s.la=none∧s.lf=some (s.f+c):=st
  have hc:c<4:=hc
  have:=T.nf _ slf (by lia)
  have hf:=T.f
  have e:dw (cw 1 16 v ns)=4:=by
   unfold cw dF dT
   unfold dw
   rw[abH,abH,abH,abH,abH,show((aaw ns.length).map λ(k:Nat)=>(some ((1:Int)+1+(k:Int),v (ns.getD k 0)):Option (Int×By))).filter (·.isNone)=[] from acW.mpr λo ho=>by obtain⟨w,_,rfl⟩:=aau.mp ho;exact abe,show((aaw ns.length).map λ(k:Nat)=>(some (ns.getD k 0,v (ns.getD k 0)):Option (Int×By))).filter (·.isNone)=[] from acW.mpr λo ho=>by obtain⟨w,_,rfl⟩:=aau.mp ho;exact abe]
   rfl
  rw[e]at hf
  lia
 |false=>
  obtain⟨sla,slf⟩:s.la=some (s.w+c)∧s.lf=none:=st
  have hc:c<2*ns.length+2:=hc
  have:=T.nw _ sla (by lia)
  have hf:=T.w
  have e:(bw (cw 1 16 v ns)).length=2*ns.length+2:=by
   rw[tm,fO,fO,fO,aar,iE,iE,iE,iE,aag,aag,aag,lh,Ae]
   show ns.length+(1+(ns.length+1))=_
   lia
  rw[e]at hf
  lia
abbrev ji(tv tr:Nat)(ca:Int)(fl:Bool)(c:Int)(dk tn:Nat)(x7 x8:Option V):Lo:=[some (.ref tv),some (.ref tr),some (.int ca),some (.bool fl),some (.int c),some (.ref dk),some (.ref tn),x7,x8,none,none,none,none,none,none,none,none,none,none,none,none,none,none,none,none,none]
section
variable {X:Xp} {lo:Lo} {H:Hp}
theorem Ri{Q:Bool->Sp}{i:Int}{d:Nat}{xs:List Int}{r:Bool}(e:H[d]? =some (.list (xs.map V.int)))(er:xs.contains i=r)(q:Q (!r) ⟨lo,H⟩):Wq (cF .NotIn (.int i) (.ref d) ⟨lo,H⟩) Q X:=af (sQ e er q)
theorem Rj{t1 t2 t3:V->M Unit}{Q:Unit->Sp}{a:Nat}{x y z:V}{st:St}(e:st.H[a]? =some (.tuple [x,y,z]))(h:Wq (t1 x st) (sx t2 y (sx t3 z Q X) X) X):Wq (dg [t1,t2,t3] (.ref a) st) Q X:=by
 obtain⟨lo,H⟩:=st
 unfold dg
 refine af<|aq<|af<|yj e<|af<|bp rfl ?_
 exact af (h.mono (λ_ s q=>af (q.mono (λ_ s q=>af q) λ_ _ q=>q)) λ_ _ q=>q)
end
section
variable {F:List Cl} {H:Hp} {n:Nat} {X:Xp}
theorem Rk{Q:Fl->Sp}{us:Us}{tv tr dk tn:Nat}{ca c:Int}{fl:Bool}(h:Holds H ((tn,.list (([]:List Int).map V.int))::F))(hr:fZ F tr us)(hl:us.length<=4)(h3:∀ d r,us=d++r->(bo d).length<=3)
  (q:∀ H' x7 x8,Holds H' ((tn,.list ((bo us).map V.int))::F)->Wq (ax (xY (Rn 8 n)) ⟨ji tv tr ca fl c dk tn x7 x8,H'⟩) Q X):
  Wq (ax (rW (Rn 8 n)) ⟨ji tv tr ca fl c dk tn none none,H⟩) Q X:=by
 have hr1:(tr,O.list (us.map λt=>V.ref t.1))∈F:=hr.1
 refine ag<|i8 (a:=tr) (xs:=us.map λt=>V.ref t.1) (λxs st=>d9 λd r x7 x8=>cB (us=d++r) (xs=r.map λt=>V.ref t.1) (st.lo=ji tv tr ca fl c dk tn x7 x8) (Holds st.H ((tn,.list ((bo d).map V.int))::F))) (aaJ (by rw[aad];exact aah hl (by decide)))
  (aj rfl ⟨rfl,h.get (.tail _ hr1),[],us,_,_,rfl,rfl,rfl,h⟩) (λxs st I=>?_) (λv xs st I=>?_) λst I=>?_
 ·obtain⟨_,_,_,_,_,_,_,h⟩:=I
  exact h.get (.tail _ hr1)
 ·obtain⟨d,r,_,_,e1,e2,hlo,h⟩:=I
  obtain⟨lo,H⟩:=st
  subst hlo
  cases r with
  |nil=>contradiction
  |cons t r=>
   obtain⟨rfl,rfl⟩:=abU.inj e2
   have ht:t∈us:=by rw[e1];exact aac _ (.head _)
   obtain⟨a,x,o⟩:=t
   have et:H[a]? =some (.tuple [.int x,.bytes o]):=h.get (.tail _ (hr.2 _ ht))
   have l3:=h3 _ _ e1
   refine d6 et<|aF<|aF<|ag<|cR<|af<|aj rfl<|bu<|aj rfl<|Ri h.hd rfl ?_
   have fin:∀ {H:Hp},Holds H ((tn,.list ((cU (bo d) x).map V.int))::F)->d9 λ(d r:Us) x7 x8=>cB (us=d++r) (r.map (λt=>V.ref t.1)=r.map λt=>V.ref t.1) (ji tv tr ca fl c dk tn (some (.int x)) (some (.bytes o))=ji tv tr ca fl c dk tn x7 x8) (Holds H ((tn,.list ((bo d).map V.int))::F)):=λh=>⟨d++[(a,x,o)],r,_,_,by rw[e1,aaf];rfl,rfl,rfl,by rw[mX];exact h⟩
   cases hc:(bo d).contains x with
   |true=>
    have m:=acZ.mp hc
    refine⟨d++[(a,x,o)],r,_,_,by rw[e1,aaf];rfl,rfl,rfl,?_⟩
    rw[mX]
    unfold cU
    rw[if_pos m]
    exact h
   |false=>
    have m:x ∉ bo d:=λz=>aaa (hc.symm.trans (acZ.mpr z))
    refine ag<|bh<|i0 (ys:=(bo d).map V.int)<|aj rfl ⟨rfl,h.hd,aj rfl ⟨h.hd,by rw[aad];unfold lim;lia,?_⟩⟩
    refine⟨d++[(a,x,o)],r,_,_,by rw[e1,aaf];rfl,rfl,rfl,?_⟩
    rw[mX]
    unfold cU
    rw[if_neg m,aaq]
    exact h.dt _
 ·obtain⟨d,r,_,_,e1,e2,hlo,h⟩:=I
  obtain⟨lo,H⟩:=st
  subst hlo
  have he:r=[]:=abr.mp e2.symm
  subst he
  rw[aar]at e1
  subst e1
  unfold bQ
  exact q H _ _ h
end
theorem tD{k:Int}:∀ {l:Ws} {d d':Int->By},d k=d' k->aM l d k=aM l d' k
 | [],_,_,h=>h
 |q::l,d,d',h=>tD (l:=l) (by show upd d q.1 q.2 k=upd d' q.1 q.2 k;unfold upd;split<;>first |rfl |exact h)
theorem Ag{us:Us}:(bo us).Nodup:=by
 have:∀ {us:Us} {ns:List Int},ns.Nodup->(us.foldl (λns t=>cU ns t.2.1) ns).Nodup:=λ{us}=>by
  induction us with
  |nil=>exact id
  |cons t us ih=>
   intro ns h
   refine ih ?_
   show(cU ns t.2.1).Nodup
   unfold cU
   split
   ·exact h
   ·rename_i m
    exact aaW.mpr ⟨h,aaI.mpr ⟨nofun,abC⟩,λa ha y hy e=>m (by rw[aaP.mp hy]at e;exact e▸ha)⟩
 exact this abC
theorem Ah{us:Us}{k:Int}(h:k ∉ bo us)(d:Int->By):aM (b7 us) d k=d k:=jU λq hq e=>by
 obtain⟨t,ht,rfl⟩:=aau.mp hq
 exact h (mY.mpr ⟨t,ht,e⟩)
structure lk(vs:List By):Prop where
 l:7<=vs.length∧vs.length<=9
 z:∀ b∈vs,(b.length:Int)=16
 h:eY vs 1=zeros 16
section
variable {F:List Cl} {H:Hp} {n:Nat} {X:Xp}
theorem Rm{Q:Qh}{sd:Dk}{d:Int->By}{vs:List By}{us:Us}{tv tr tn m c:Nat}{fl:Bool}{x7 x8:Option V}(I:lj vs.length d (aM (b7 us) d) (bo us))(D:pb sd vs.length d (aM (b7 us) d) (bo us) fl c)(h:Holds H (av sd++((tn,.list ((bo us).map V.int))::F)))(vo:lk vs)(hv:(tv,O.list (vs.map V.bytes))∈F)(hr:fZ F tr us)(ro:dU vs.length us)(lt:∀ k,0<=k->k<(vs.length:Int)->d k=eY vs k)(q:∀ H',Holds H' F->Q (.bool true) H'):
  Wq (ax (xW (Rn 8 n)) ⟨ji tv tr m fl c sd.dk tn x7 x8,H⟩) (cP Q) X:=by
 obtain⟨l7,l9⟩:=vo.l
 have l5:5<=vs.length∧vs.length<=100:=⟨aah (by decide) l7,aah l9 (by decide)⟩
 have eO:cn vs.length (eY vs)=cn vs.length d:=jX (λk k0 k1 _=>(lt k k0 k1).symm) (abg.mpr l5.1)
 have eW:cn vs.length (aM (b7 us) (eY vs))=cn vs.length (aM (b7 us) d):=jX (λk k0 k1 _=>tD (lt k k0 k1).symm) (abg.mpr l5.1)
 have ul:(sd.un.map λt=>V.ref t.1).length<=lim:=by rw[aad];exact aah D.ul (b6 rfl)
 have fin:∀ {H:Hp} {tO tw:Nat},Holds H ((tw,.list ((cn vs.length (aM (b7 us) d)).map V.bytes))::(tO,.list ((cn vs.length d).map V.bytes))::(av sd++((tn,.list ((bo us).map V.int))::F)))->Wq (ax (rV (Rn 8 n)) ⟨gE tv tr m fl c sd.dk tn x7 x8 tO tw (sd.un.map λt=>V.ref t.1).length none none none none none,H⟩) (cP Q) X:=λh=>by
  have h:=h.perm ((aaU _ acy.symm).trans acy.symm)
  rw[aad]
  exact Rc I D h (.tail _ (.tail _ (.head _))) (.tail _ (.head _)) (.head _) (λH h=>q H h.bg.bg.bg) λ_ _ _ _ z=>z
 refine ag<|aY<|jO<|au<|z8 (us:=vs) rfl h (aac _ (.tail _ hv)) l5 λH tO h=>au<|fo rfl rfl<|z9 (vs:=vs) (us:=us) h (.tail _ (aac _ (.tail _ hv))) l5 ⟨.tail _ (aac _ (.tail _ hr.1)),λt m=>.tail _ (aac _ (.tail _ (hr.2 t m)))⟩ ro λH tw h=>au ?_
 rw[eO,eW]at h
 refine aR<|au<|aw rfl (bq h.bg.bg) (bA (by decide)) rfl rfl<|ar<|fK (jN h.bg.bg) ul<|ar ⟨rfl,?_⟩
 have h:=h.app [O.tuple [.ref tO,.ref tw,.int (sd.un.map λt=>V.ref t.1).length]]
 refine Rj fX<|aF<|aF<|aF ?_
 exact fin h
theorem Ai{Q:Qh}{s:Dk}{vs:List By}{us:Us}{tv tr tn m c:Nat}{fl:Bool}{x7 x8:Option V}(h:Holds H (av s++((tn,.list ((bo us).map V.int))::F)))(vo:lk vs)(hv:(tv,O.list (vs.map V.bytes))∈F)(hr:fZ F tr us)(ro:dU vs.length us)(hm:m=1∨m=2)
  (ok:bR s) (hB:s.B=vs.length) (hS:s.S=16) (hw:0<=s.w∧s.w<=900) (hu:s.un=[]) (st:Stop s fl c) (hc:if fl then c<4 else c<2*(bo us).length+2) (lt:∀ k,0<=k->k<(vs.length:Int)->aI s k=eY vs k) (ke:∀ k,bytesAt s.S s.ke k=aI s k) (q:∀ H',Holds H' F->Q (.bool true) H'):
  Wq (ax (xX (Rn 8 n)) ⟨ji tv tr m fl c s.dk tn x7 x8,H⟩) (cP Q) X:=by
 obtain⟨l7,l9⟩:=vo.l
 have I:lj vs.length (aI s) (aM (b7 us) (aI s)) (bo us):=⟨⟨by lia,by lia⟩,ro.d us [] (aar _).symm,Ag,λk hk=>ro.lo hk,λk hk=>Ah hk _⟩
 have h1:aI s 1=zeros 16:=(lt 1 (by decide) (by lia)).trans vo.h
 refine ag<|dC<|af<|af<|fo rfl rfl<|z6 (F:=(tn,.list ((bo us).map V.int))::F) (us:=us) h ok hu hS (by rw[hB];lia) hw ⟨.tail _ hr.1,λt m=>.tail _ (hr.2 t m)⟩ (by rw[hB];exact ro) hm (λa o b e s' H k1 T bl h=>du<|aq ⟨rfl,?_⟩) λH s' k1 T h=>(Rh T st hc).elim
 have D:=Rg I h1 hB hS ke st k1 T bl e
 have edk:s'.eJ.dk=s.dk:=T.dk
 have:=Rm (Q:=Q) (X:=X) (n:=n) (tv:=tv) (tr:=tr) (m:=m) (x7:=x7) (x8:=x8) I D h vo hv hr ro lt q
 rw[edk]at this
 exact this
end
theorem Aj{vs:List By}{d:Int->By}{k:Nat}:∀ i,k<i->aM (vW vs i) d k=vs.getD k []
 | 0,h=>absurd h (aed _)
 |i+1,h=>by
  rw[zH,kS]
  unfold upd
  by_cases e:(k:Int)=i
  ·rw[if_pos e,agy.inj e]
  ·rw[if_neg e];exact Aj i (by lia)
theorem Ak{vs:List By}{d:Int->By}{k:Int}(h0:0<=k)(h1:k<(vs.length:Int)):aM (vW vs vs.length) d k=eY vs k:=by
 obtain⟨n,rfl⟩:=abf h0
 exact Aj _ (acG.mp h1)
section
variable {F:List Cl} {H:Hp} {n:Nat} {X:Xp}
theorem Al{Q:Qh}{vs:List By}{us:Us}{tv tr m c:Nat}{fl:Bool}(h:Holds H F)(vo:lk vs)(hv:(tv,O.list (vs.map V.bytes))∈F)(hr:fZ F tr us)(ro:dU vs.length us)(hm:m=1∨m=2)(hc:if fl then c<4 else c<2*(bo us).length+2)(q:∀ H',Holds H' F->Q (.bool true) H'):
  Cq (Rn 9 n (.ah 603) [.ref tv,.ref tr,.int m,.bool fl,.int c] H) Q X:=by
 obtain⟨l7,l9⟩:=vo.l
 rw[NB]
 refine Cq.fin<|ag<|aY<|jO<|au<|fo rfl rfl<|zI h hv ⟨aah (by decide) l7,aah l9 (by decide)⟩ vo.z λH s I h=>au<|eU (c:=av s++F)<|ar ⟨rfl,h,λH tn h=>ar ⟨rfl,?_⟩⟩
 have h:=h.app [O.tuple [.ref s.dk,.ref tn]]
 refine d6 fX<|aF<|aF ?_
 generalize H++[O.tuple [.ref s.dk,.ref tn]]=H at h
 show Wq (ax (rW (Rn 8 n)) ⟨ji tv tr m fl c s.dk tn none none,H⟩) (cP Q) X
 refine Rk (F:=av s++F) h ⟨aac _ hr.1,λt m=>aac _ (hr.2 t m)⟩ ro.l ro.d λH x7 x8 h=>?_
 have h:=h.mid
 have lt:∀ k,0<=k->k<(vs.length:Int)->aI s k=eY vs k:=λk h0 h1=>(I.lt k).trans (Ak h0 h1)
 have ke:∀ k,bytesAt s.S s.ke k=aI s k:=λk=>(I.ke k).trans (I.lt k).symm
 have iw:0<=s.w∧s.w<=900:=by rw[I.w];lia
 refine ag<|cR<|af<|aj rfl<|du ?_
 cases fl with
 |true=>
  refine ag<|bh<|aW Ol rfl rfl<|aj rfl ⟨rfl,bq h,ba rfl<|P2 h (aaL c) λH h=>?_⟩
  exact Ai (s:=s.kH c) (fl:=true) h vo hv hr ro hm ⟨I.ok.b,I.ok.z,I.ok.ke,I.ok.le,I.ok.lv,I.ok.un,I.ok.al,I.ok.kv,I.ok.uz⟩ I.B I.S iw I.un (show Stop (s.kH c) true c from⟨I.la,rfl⟩) hc lt ke q
 |false=>
  refine ag<|bh<|aW Ql rfl rfl<|aj rfl ⟨rfl,bq h,ba rfl<|QH h (aaL c) λH h=>?_⟩
  exact Ai (s:={s with la:=some (s.w+c)}) (fl:=false) h vo hv hr ro hm ⟨I.ok.b,I.ok.z,I.ok.ke,I.ok.le,I.ok.lv,I.ok.un,I.ok.al,I.ok.kv,I.ok.uz⟩ I.B I.S iw I.un (show Stop {s with la:=some (s.w+c)} false c from⟨rfl,I.lf⟩) hc lt ke q
end
section
variable {X:Xp} {lo:Lo} {H:Hp} {C:Ct}
theorem Ro{Q:V->Sp}{a:Int}(q:Q (.int a.natAbs) ⟨lo,H⟩):Wq (aP P0 C true (.bi "abs") [.int a] ⟨lo,H⟩) Q X:=by
 have e:aP P0 C true (.bi "abs") [.int a] ⟨lo,H⟩=.ok (.int a.natAbs) ⟨lo,H⟩:=by kernel_rfl
 rw[e];exact q
theorem Rp{Q:V->Sp}{b:Bool}(q:Q (.int (if b then 1 else 0)) ⟨lo,H⟩):Wq (aP P0 C true (.ty "int") [.bool b] ⟨lo,H⟩) Q X:=by
 have e:aP P0 C true (.ty "int") [.bool b] ⟨lo,H⟩=.ok (.int (if b then 1 else 0)) ⟨lo,H⟩:=by kernel_rfl
 rw[e];exact q
theorem Rq{Q:V->Sp}(q:∀ m:Int,0<m->Q (.int m) ⟨lo,H⟩):Wq (binop .Pow (.int 10) (.int 90) ⟨lo,H⟩) Q X:=Ph (by decide) (by decide) (q _ (Int.pow_pos (by decide)))
theorem Rt{Q:V->Sp}{xs:List Int}{c:List Cl}(hl:xs.length<=1000)(hc:Holds H c)(q:∀ H' t (ys:List Int),ys.length<=24->Holds H' ((t,.list (ys.map V.int))::c)->Q (.ref t) ⟨lo,H'⟩):Wq (fA (.ints xs) none (some 24) ⟨lo,H⟩) Q X:=
 Pu sO (jT (i:=24) (by decide)) (aah hl (b6 rfl)) hc λH t h=>q H t (cM xs none (some 24)) (by rw[show(24:Int)=((24:Nat):Int) from rfl,zk];exact ahF _ _) h
theorem Ru{t:V->M Unit}{body:Lm}{Q:Fl->Sp}{a:Nat}{xs:List V}(I:List V->Sp)(hl:acT xs.length 1000=true)(e:H[a]? =some (.list xs))(h0:I xs ⟨lo,H⟩)(hI:∀ vs s,I vs s->s.H[a]? =some (.list xs))
  (step:∀ v vs s,I (v::vs) s->Wq (t v s) (jI body (i7 (I vs) Q) X) X) (fin:∀ s,I [] s->Q .next s):
  Wq ((iter (.ref a)>>=λi=>Lite.loop (bI i.2) (λv=>aak v>>=Lite.eA t (ax body>>=eR)) i.1>>=eD) ⟨lo,H⟩) Q X:=
 i8 (it:=aak (.ref a)) I hl (aq ⟨rfl,e,h0⟩) hI step fin
end
/-! the pool -/
noncomputable def iF (w k:Int):O:=.list [.int w,.int k]
section
variable {F:List Cl} {H:Hp} {n:Nat} {Q:Qh} {X:Xp} {p:Nat}
theorem Rv{xs:List Int}(h:Holds H F)(hl:xs.length<=1000)(q:∀ H' p w,0<=w->Holds H' ((p,iF w 0)::F)->Q (.ref p) H'):Cq (Rn 1 n (.ah 544) [.ints xs] H) Q X:=by
 rw[MP]
 refine Cq.fin<|ag<|aY<|aq<|aF ?_
 refine ag<|af<|af<|aj rfl<|af<|aq<|af<|ba rfl<|Rt hl h λH t ys hy h=>?_
 have hy':acT (ys.map V.int).length 1000=true:=aaJ (by rw[aad];lia)
 refine Ru (λvs st=>d9 λw x y z=>(cB (0<=w) (∀ v∈vs,∃ i,v=V.int i) (st.lo=[some (.ints xs),some (.int w),x,y,z]) (Holds st.H ((t,.list (ys.map V.int))::F)))) hy' h.hd ⟨0,_,_,_,acS _,λv hv=>?_,rfl,h⟩ (λvs st I=>?_) (λv vs st I=>?_) λst I=>?_
 ·obtain⟨i,_,rfl⟩:=aau.mp hv
  exact⟨i,rfl⟩
 ·obtain⟨w,x,y,z,_,_,_,h⟩:=I
  exact h.hd
 ·obtain⟨w,x,y,z,hw,hv,e,h⟩:=I
  obtain⟨lo',H⟩:=st
  subst e
  obtain⟨i,rfl⟩:=hv _ (.head _)
  refine aF<|ag<|aY<|aZ<|aZ<|aZ<|aZ<|aj rfl<|aq<|iy (.inr (by decide))<|aZ<|aq<|aR<|ba rfl<|Ro ?_
  refine iy (.inl (by decide))<|cK<|aR<|au<|jJ<|aj rfl<|aq<|fp (r:=decide (i<0)) rfl<|ar<|Rp<|cK<|aZ<|aq<|aq<|Rq λm hm=>?_
  refine kX (adK hm)<|aF ?_
  exact⟨_,_,_,_,adD _ hm,λv hv'=>hv v (.tail _ hv'),rfl,h⟩
 ·obtain⟨w,x,y,z,hw,hv,e,h⟩:=I
  obtain⟨lo',H⟩:=st
  subst e
  unfold bQ
  refine ag<|cQ<|eU<|ba rfl ⟨rfl,h.bg,λH p h=>?_⟩
  exact q H p w hw h
theorem Rw{w k m:Int}(h:Holds H ((p,iF w k)::F))(hw:0<=w)(hk:0<=k)(hk2:k<=100000)(hm:0<m)(hm2:m<=100000)(q:∀ H' d w' k',0<=d->d<m->0<=w'->0<=k'->k'<=k+1->Holds H' ((p,iF w' k')::F)->Q (.int d) H'):Cq (Rn 1 n (.ah 551) [.ref p,.int m] H) Q X:=by
 rw[MU]
 refine Cq.fin<|ag<|cR<|af<|af<|aj rfl<|af<|aq<|fY (k:=0) h.hd (b6 rfl) rfl<|bu<|aq<|iZ (r:=decide (w>0)) rfl ?_
 cases d1:decide (w>0)with
 |true=>
  refine ag<|aY<|aZ<|af<|aj rfl<|af<|aq<|fY (k:=0) h.hd (b6 rfl) rfl<|aj rfl<|kX (adK hm)<|aF ?_
  refine ag<|aY<|aZ<|af<|aj rfl<|af<|aq<|fY (k:=0) h.hd (b6 rfl) rfl<|aj rfl<|zD ⟨adK hm,rX (acg hm) (abX hm2 (by decide))⟩<|af<|aj rfl<|af<|aq<|o5 (k:=0) rfl h.hd (b6 rfl) (abR rfl) (h.dt _) λH h=>?_
  unfold bQ
  refine ag<|cQ<|aj rfl ?_
  exact q H _ _ _ (adD _ hm) (afG _ hm) (aja hw (acg hm)) hk (acg (Int.lt_succ k)) h
 |false=>
  refine fj ?_
  refine ag<|af<|aj rfl<|af<|aq<|af<|fY (k:=1) h.hd (b6 rfl) rfl<|af<|aq<|af<|aq<|af<|o5 (k:=1) rfl h.hd (b6 rfl) (abR rfl) (h.dt _) λH h=>?_
  have h:Holds H ((p,iF w (k+1))::F):=h
  refine ag<|cQ<|aZ<|aZ<|aZ<|aZ<|aZ<|aZ<|aq<|af<|aj rfl<|af<|aq<|fY (k:=1) h.hd (b6 rfl) rfl<|iy (.inl (by decide))<|af<|aj rfl<|af<|aq<|fY (k:=1) h.hd (b6 rfl) rfl<|iy (.inr (rX (acg (ahH hk)) (ahx hk2 1)))<|aZ<|aq<|af<|aj rfl<|af<|aq<|fY (k:=1) h.hd (b6 rfl) rfl<|iy (.inl (by decide))<|cK<|aq<|cK<|aq<|kX (by decide)<|aj rfl<|kX (adK hm) ?_
  exact q H _ _ _ (adD _ hm) (afG _ hm) hw (acg (ahH hk)) (acS _) h
end
def Pl(H:Hp)(p:Nat)(N:Nat)(F:List Cl):Prop:=bT λw k=>cB (0<=w) (0<=k) (k<=(N:Int)) (Holds H ((p,iF w k)::F))
section
variable {X:Xp} {lo:Lo} {H:Hp} {n p N:Nat} {F:List Cl}
theorem lp{Q:Qh}{m:Int}(h:Pl H p N F)(hN:N<=1000)(hm:0<m)(hm2:m<=1000)(q:∀ H' d,0<=d->d<m->Pl H' p (N+1) F->Q (.int d) H'):Cq (Rn 1 n (.ah 551) [.ref p,.int m] H) Q X:=by
 obtain⟨w,k,hw,hk,hk2,h⟩:=h
 exact Rw h hw hk (by lia) hm (by lia) λH d w' k' h1 h2 h3 h4 h5 h=>q H d h1 h2 ⟨w',k',h3,h4,by lia,h⟩
theorem tE{Q:V->Sp}{k:Nat}{M0 e:M V}{x:Int}(h:Pl H p N F)(hN:N<=1000)(e0:∀ {w j:Int},Holds H ((p,iF w j)::F)->M0 ⟨lo,H⟩=.ok (.ref p) ⟨lo,H⟩)(ee:∀ {H:Hp} {w j:Int},Holds H ((p,iF w j)::F)->e ⟨lo,H⟩=.ok (.int x) ⟨lo,H⟩)(hx:0<=x∧x<256)
  (q:∀ H' b,(b.length:Int)=16->Pl H' p (N+1) F->Q (.bytes b) ⟨lo,H'⟩):
  Wq (Lite.ay P0 (Rn (k+1) n) (V.ty "bytes") [Lite.aJ .Add (Lite.aJ .Mult (listS [Lite.ay P0 (Rn (k+1) n) (V.ah 551) [M0,aak (V.int 256)]]) (aak (V.int 15))) (listS [e])] ⟨lo,H⟩) Q X:=by
 have e0:M0 ⟨lo,H⟩=.ok (.ref p) ⟨lo,H⟩:=by obtain⟨w,j,_,_,_,h⟩:=h;exact e0 h
 refine aR<|au<|aZ<|aZ<|oI<|au<|aR<|au<|ba e0<|au<|aq<|ar<|gy rfl<|(lp (n:=n+k) h hN (by decide) (by decide) λH d d0 d1 h=>?_)
 obtain⟨w,j,h1,h2,h3,h⟩:=h
 refine ar ⟨rfl,?_⟩
 have h:=h.new (.list [.int d])
 generalize H.length=t1 at h ⊢
 generalize H++[O.list [.int d]]=H at h ⊢
 refine aq<|Pm h h.hd ⟨by decide,kQ (by decide)⟩ λH t2 h=>oI<|au<|ba (ee h.bg.bg)<|ar ⟨rfl,?_⟩
 have h:=h.new (.list [.int x])
 generalize H.length=t3 at h ⊢
 generalize H++[O.list [.int x]]=H at h ⊢
 refine oU h (h.on _ (.tail _ (.head _))) h.hd (show 16<=lim from b6 rfl) λH t4 h=>ar ?_
 have hb:∀ i∈aaT 15 d++[x],0<=i∧i<256:=λi hi=>by
  rcases aav.mp hi with hi |hi
  ·rw[(List.mem_replicate.mp hi).2];exact⟨d0,d1⟩
  ·rw[aaP.mp hi];exact hx
 have ex:aaT (15:Int).toNat (V.int d)++[V.int x]=(aaT 15 d++[x]).map V.int:=by rw[aaq,List.map_replicate];rfl
 rw[ex]at h
 refine zi h.hd (show 16<=lim from b6 rfl) (sN hb) ?_
 exact q H _ (by rw[aad,aag,acE];rfl) ⟨w,j,h1,h2,h3,h.bg.bg.bg.bg⟩
end
abbrev iG(p:Nat)(wide:Bool)(B:Int)(x3 x4 x5 x6 x7:Option V):Lo:=[some (.ref p),some (.bool wide),some (.int B),x3,x4,x5,x6,x7,none,none,none]
theorem An{H:Hp}{F:List Cl}{us:Us}{tr t p:Nat}{P:O}{x:Int}{o:By}(h:Holds H ((t,.tuple [.int x,.bytes o])::(p,P)::(tr,dK us)::(us.map cS++F))):Holds (H.set tr (.list ((us.map λt=>V.ref t.1)++[.ref t]))) ((p,P)::(tr,dK (us++[(t,x,o)]))::((us++[(t,x,o)]).map cS++F)):=by
 have h1:=h.jL (.list ((us.map λt=>V.ref t.1)++[.ref t]))
 have e:(us++[(t,x,o)]).map cS++F=us.map cS++cS (t,x,o)::F:=by rw[aaq,aaf];rfl
 have e2:dK (us++[(t,x,o)])=.list ((us.map λt=>V.ref t.1)++[.ref t]):=by unfold dK;rw[aaq];rfl
 rw[e,e2]
 exact h1.perm ((aaS _ _ _).trans (aaU _ ((aaS _ _ _).trans (aaU _ acy.symm))))
theorem Pl.mono{H:Hp}{p N M:Nat}{F:List Cl}(h:Pl H p N F)(hM:N<=M):Pl H p M F:=by
 obtain⟨w,k,h1,h2,h3,h⟩:=h
 exact⟨w,k,h1,h2,by lia,h⟩
def gY(NL:List Int)(us:Us):Prop:=∀ t∈us,t.2.1∈NL∧(t.2.2.length:Int)=16
theorem gY.snoc{NL:List Int}{us:Us}{t:Nat}{x:Int}{o:By}(h:gY NL us)(hx:x∈NL)(ho:(o.length:Int)=16):gY NL (us++[(t,x,o)]):=λu hu=>by
 rcases aav.mp hu with hu |hu
 ·exact h u hu
 ·rw[aaP.mp hu];exact⟨hx,ho⟩
theorem Rx{NL:List Int}{us:Us}{B:Int}(h:gY NL us)(hl:NL.length<=3)(hn:∀ k∈NL,aO (0<=k) (k<B) (k<1∨5<=k))(l4:us.length<=4)(ne:us≠[]):dU B us where
 n t ht:=by
  have:=h t ht
  have h2:=hn _ this.1
  exact⟨h2.1,h2.2,h2.3,this.2⟩
 l:=l4
 ne:=ne
 d d r e:=aah (y7 Ag λk hk=>by
  obtain⟨t,ht,rfl⟩:=mY.mp hk
  exact(h t (by rw[e];exact aao _ ht)).1) hl
section
variable {X:Xp} {H:Hp} {n p N:Nat} {F:List Cl}
theorem Ry{Q:Fl->Sp}{us:Us}{NL:List Int}{tr k:Nat}{x x5 B:Int}{wide:Bool}{x3:Option V}(h:Pl H p N ((tr,dK us)::(us.map cS++F)))(hN:N<=900)(hk:k<3)(hu:us.length<=3)(R:gY NL us)(hx:x∈NL)
  (q:∀ H' us',us'.length=us.length+1->gY NL us'->Pl H' p (N+1) ((tr,dK us')::(us'.map cS++F))->Q .next ⟨iG p wide B x3 (some (.ref tr)) (some (.int x5)) (some (.int k)) (some (.int x)),H'⟩):
  Wq (ax (rR (Rn 1 n)) ⟨iG p wide B x3 (some (.ref tr)) (some (.int x5)) (some (.int k)) (some (.int x)),H⟩) Q X:=by
 have ht:H[tr]? =some (.list (us.map λt=>V.ref t.1)):=by obtain⟨w,j,_,_,_,h⟩:=h;exact h.on _ (.tail _ (.head _))
 refine ag<|bh<|i0 (ys:=us.map λt=>V.ref t.1)<|aj rfl ⟨rfl,ht,jO<|au<|aj rfl<|au<|tE (x:=100+k) h (aah hN (by decide)) (λ_=>rfl) (λ_=>rfl) (by lia) λH b hb h=>ar ⟨rfl,?_⟩⟩
 obtain⟨w,j,h1,h2,h3,h⟩:=h
 have h:=h.new (.tuple [.int x,.bytes b])
 generalize H.length=t at h ⊢
 generalize H++[O.tuple [.int x,.bytes b]]=H at h ⊢
 refine⟨h.on _ (.tail _ (.tail _ (.head _))),by rw[aad];unfold lim;lia,?_⟩
 exact fj (X:=X) (q _ (us++[(t,x,b)]) aag (R.snoc hx hb) ⟨w,j,h1,h2,h3,An h⟩)
end
section
variable {X:Xp} {H:Hp} {n p N:Nat} {F:List Cl}
theorem Rz{Q:Qh}{us:Us}{NL:List Int}{tr:Nat}{B:Int}{wide:Bool}{x3 x5 x6 x7:Option V}(h:Pl H p N ((tr,dK us)::(us.map cS++F)))(hN:N<=900)(hu:us.length<=3)(ne:us≠[])(R:gY NL us)(hl:NL.length<=3)(hn:∀ k∈NL,aO (0<=k) (k<B) (k<1∨5<=k))
  (q:∀ H' us',dU B us'->Pl H' p (N+2) ((tr,dK us')::(us'.map cS++F))->Q (.ref tr) H'):
  Wq (ax (rS (Rn 1 n)) ⟨iG p wide B x3 (some (.ref tr)) x5 x6 x7,H⟩) (cP Q) X:=by
 have fin:∀ {H:Hp} {us':Us},us'.length<=4->us'≠[]->gY NL us'->Pl H p (N+2) ((tr,dK us')::(us'.map cS++F))->Wq (ax (xN (Rn 1 n)) ⟨iG p wide B x3 (some (.ref tr)) x5 x6 x7,H⟩) (cP Q) X:=λl4 ne R h=>
  ag<|cQ<|aj rfl<|q _ _ (Rx R hl hn l4 ne) h
 refine ag<|cR<|mE<|af<|aj rfl<|du ?_
 cases wide with
 |false=>exact fin (ade hu) ne R (h.mono (aeI _ _))
 |true=>
  refine s6<|af<|fo rfl rfl<|lp h (aah hN (by decide)) (by decide) (by decide) λH d d0 d1 h=>bu<|aq<|gB (r:=decide (d=0)) rfl ?_
  cases decide (d=0)with
  |false=>exact fin (ade hu) ne R (h.mono (adE _))
  |true=>
   obtain⟨u,us0,rfl⟩:=List.exists_cons_of_ne_nil ne
   obtain⟨a,x,o⟩:=u
   have hx:=(R _ (.head _)).1
   have ht:H[tr]? =some (.list (((a,x,o)::us0).map λt=>V.ref t.1)):=by obtain⟨w,j,_,_,_,h⟩:=h;exact h.on _ (.tail _ (.head _))
   have ha:H[a]? =some (.tuple [.int x,.bytes o]):=by obtain⟨w,j,_,_,_,h⟩:=h;exact h.on (cS (a,x,o)) (.tail _ (.tail _ (.head _)))
   have hll:(((a,x,o)::us0).map λt=>V.ref t.1).length<=lim:=by rw[aad];exact aah hu (b6 rfl)
   refine ag<|bh<|i0 (ys:=((a,x,o)::us0).map λt=>V.ref t.1)<|aj rfl ⟨rfl,ht,jO<|au<|af<|af<|aj rfl<|af<|aq<|fY (k:=0) ht hll rfl<|af<|aq<|PH (k:=0) ha (b6 rfl) rfl<|au<|tE (x:=200) h (by lia) (λ_=>rfl) (λ_=>rfl) (by decide) λH b hb h=>ar ⟨rfl,?_⟩⟩
   obtain⟨w,j,h1,h2,h3,h⟩:=h
   have h:=h.new (.tuple [.int x,.bytes b])
   generalize H.length=t at h ⊢
   generalize H++[O.tuple [.int x,.bytes b]]=H at h ⊢
   refine⟨h.on _ (.tail _ (.tail _ (.head _))),by rw[aad];exact aba hu (abV (by decide) (b6 (n:=4) rfl)),?_⟩
   exact(fin (us':=((a,x,o)::us0)++[(t,x,b)]) (by rw[aag];exact abE hu) (by simp) (R.snoc hx hb) ⟨w,j,h1,h2,h3,An h⟩)
end
section
variable {X:Xp} {H:Hp} {n p N:Nat} {F:List Cl}
theorem RA{Q:Qh}{tr m:Nat}{x5 B:Int}{wide:Bool}(h:Pl H p N ((tr,dK [])::F))(hN:N<=800)(hm:1<=m∧m<=3)(hB:7<=B∧B<=9)(h5:0<=x5)
  (q:∀ H' us',dU B us'->Pl H' p (N+5) ((tr,dK us')::(us'.map cS++F))->Q (.ref tr) H'):
  Wq (ax (xO (Rn 1 n)) ⟨iG p wide B (some (.int m)) (some (.ref tr)) (some (.int x5)) none none,H⟩) (cP Q) X:=by
 have hb:0<B-5:=by lia
 have fm:∀ y:Int,0<=y.fmod (B-5)∧y.fmod (B-5)<B-5:=λy=>⟨adD _ hb,afG _ hb⟩
 have f0:=fm (x5+(0:Nat))
 have f1:=fm (x5+(1:Nat))
 refine ag<|jR (n:=m) (g:=λ(k:Nat)=>V.int k) (λk st=>cW λus x6 x7=>cB (st.lo=iG p wide B (some (.int m)) (some (.ref tr)) (some (.int x5)) x6 x7) (us.length=k) (gY [5+(x5+(0:Nat)).fmod (B-5),5+(x5+(1:Nat)).fmod (B-5),0] us) (Pl st.H p (N+k) ((tr,dK us)::(us.map cS++F))))
  (aR<|au<|aj rfl<|ar ?_) (λk st hk I=>?_) λst I=>?_
 ·obtain⟨w,j,h1,h2,h3,h⟩:=h
  exact iz h λH r h=>⟨iA (n:=m) h.hd (by lia),[],_,_,rfl,rfl,λ_ z=>(nomatch z),w,j,h1,h2,h3,h.bg⟩
 ·obtain⟨us,_,_,hlo,hu,R,h⟩:=I
  obtain⟨lo,H⟩:=st
  subst hlo
  have go:∀ x:Int,x∈[5+(x5+(0:Nat)).fmod (B-5),5+(x5+(1:Nat)).fmod (B-5),0]->Wq (ax (rR (Rn 1 n)) ⟨iG p wide B (some (.int m)) (some (.ref tr)) (some (.int x5)) (some (.int k)) (some (.int x)),H⟩) (i7 (λst=>cW λus x6 x7=>cB (st.lo=iG p wide B (some (.int m)) (some (.ref tr)) (some (.int x5)) x6 x7) (us.length=k+1) (gY [5+(x5+(0:Nat)).fmod (B-5),5+(x5+(1:Nat)).fmod (B-5),0] us) (Pl st.H p (N+(k+1)) ((tr,dK us)::(us.map cS++F)))) (bQ (rS (Rn 1 n)) (cP Q) X)) X:=λ_ hx=>
   Ry h (by lia) (by lia) (by lia) R hx λH us' hl R h=>⟨us',_,_,rfl,by rw[hl,hu],R,h⟩
  refine aF<|ag<|aY<|gR<|af<|aj rfl<|bu<|aq<|fp (r:=decide ((k:Int)<2)) rfl ?_
  rcases k with _ |_ |k
  ·exact aZ<|aq<|aZ<|aZ<|aj rfl<|aj rfl<|cK<|aZ<|aj rfl<|aq<|jS<|kX (adK hb)<|cK<|aF<|go _ (.head _)
  ·exact aZ<|aq<|aZ<|aZ<|aj rfl<|aj rfl<|cK<|aZ<|aj rfl<|aq<|jS<|kX (adK hb)<|cK<|aF<|go _ (.tail _ (.head _))
  ·rw[decide_eq_false (show ¬ (((k+1+1:Nat):Int)<2) by lia)]
   exact aq<|aF<|go _ (.tail _ (.tail _ (.head _)))
 ·obtain⟨us,_,_,hlo,hu,R,h⟩:=I
  obtain⟨lo,H⟩:=st
  subst hlo
  unfold bQ
  refine Rz (h.mono (M:=N+3) (by lia)) (by lia) (by lia) (λe=>by rw[e]at hu;have:0=m:=hu;lia) R (aaZ 3) (λk hk=>?_) λH us' ro h=>q H us' ro h
  rcases acB.mp hk with rfl |hk
  ·exact⟨by lia,by lia,.inr (by lia)⟩
  rcases acB.mp hk with rfl |hk
  ·exact⟨by lia,by lia,.inr (by lia)⟩
  ·rw[aaP.mp hk]
   exact⟨by lia,by lia,.inl (by decide)⟩
theorem RB{Q:Qh}{B:Int}{wide:Bool}(h:Pl H p N F)(hN:N<=700)(hB:7<=B∧B<=9)
  (q:∀ H' tr us',dU B us'->Pl H' p (N+7) ((tr,dK us')::(us'.map cS++F))->Q (.ref tr) H'):Cq (Rn 2 n (.ah 572) [.ref p,.bool wide,.int B] H) Q X:=by
 rw[M7]
 have go:∀ {H:Hp} {m:Nat},1<=m∧m<=3->Pl H p (N+1) F->Wq (ax (xP (Rn 1 n)) ⟨iG p wide B (some (.int m)) none none none none,H⟩) (cP Q) X:=λ{H m} hm h=>by
  obtain⟨w,j,h1,h2,h3,h⟩:=h
  refine ag<|aY<|jO<|au<|eU (c:=(p,iF w j)::F)<|ar ⟨rfl,h,λH tr h=>au<|aR<|au<|aj rfl<|au<|aZ<|aj rfl<|aq<|jS<|ar<|gy rfl<|lp (N:=N+1) (F:=(tr,dK [])::F) ⟨w,j,h1,h2,h3,h.sw⟩ (by lia) (by lia) (by lia) λH d d0 d1 h=>ar ⟨rfl,?_⟩⟩
  have h:Pl (H++[O.tuple [.ref tr,.int d]]) p (N+1+1) ((tr,dK [])::F):=by
   obtain⟨w,j,h1,h2,h3,h⟩:=h
   exact⟨w,j,h1,h2,h3,h.app _⟩
  refine d6 fX<|aF<|aF ?_
  generalize H++[O.tuple [.ref tr,.int d]]=H at h
  exact RA h (by lia) hm hB d0 λH us ro h=>q H tr us ro h
 refine Cq.fin<|ag<|aY<|aZ<|aq<|gR<|af<|aj rfl<|du ?_
 cases wide with
 |true=>
  refine fo rfl rfl<|lp h (by lia) (by decide) (by decide) λH d d0 d1 h=>cK<|aF ?_
  have e:1+d=((1+d).toNat:Int):=by lia
  rw[e]
  exact go (m:=(1+d).toNat) (by lia) h
 |false=>exact aq<|cK<|aF<|go (m:=1) (by decide) (h.mono (adE _))
end
section
variable {X:Xp} {C:Ct} {lo:Lo} {H:Hp} {Q:V->Sp}
theorem RC{c:List Cl}{a:Nat}{xs:List Int}(hc:Holds H c)(e:H[a]? =some (.list (xs.map V.int)))(hl:xs.length<=500)(q:∀ H' t,Holds H' ((t,.j9 (gJ xs))::c)->Q (.ref t) ⟨lo,H'⟩):Wq (aP P0 C true (.ty "set") [.ref a] ⟨lo,H⟩) Q X:=by
 have e2:aP P0 C true (.ty "set") [.ref a] ⟨lo,H⟩=(Lite.bV a>>=λxs=>Lite.aG (intsOf xs)>>=λns=>Lite.guard (decide (ns.length<=500))>>=λ_=>Lite.alloc (.j9 (gJ ns))) ⟨lo,H⟩:=by kernel_rfl
 rw[e2]
 exact af<|il e<|af<|bJ (zl xs)<|af<|bp (decide_eq_true hl)<|d5 hc q
end
theorem Ao:∀ {us:Us} {ns:List Int},(us.map λt=>t.2.1).foldl acf ns=us.foldl (λns t=>cU ns t.2.1) ns
 | [],_=>rfl
 |t::us,ns=>by
  have e:acf ns t.2.1=cU ns t.2.1:=by
   unfold acf cU
   simp
  show(us.map λt=>t.2.1).foldl acf (acf ns t.2.1)=us.foldl (λns t=>cU ns t.2.1) (cU ns t.2.1)
  rw[e]
  exact Ao
theorem RD{us:Us}:gJ (us.map λt=>t.2.1)=(bo us).length:=by unfold gJ bo;rw[Ao]
section
variable {X:Xp} {C:Ct} {lo:Lo} {H:Hp} {Q:V->Sp}
theorem RE{a m:Nat}(e:H[a]? =some (.j9 m))(q:Q (.int m) ⟨lo,H⟩):Wq (aP P0 C true (.bi "len") [.ref a] ⟨lo,H⟩) Q X:=by
 have e2:aP P0 C true (.bi "len") [.ref a] ⟨lo,H⟩=(Lite.obj a>>=lE) ⟨lo,H⟩:=by kernel_rfl
 rw[e2]
 exact af<|gx e q
theorem RF{us:Us}{tr i:Nat}{c:List Cl}(e0:lo[i]? =some (some (.ref tr)))(h:Holds H c)(hr:fZ c tr us)(hl:us.length<=4)(q:∀ H',Holds H' c->Q (.int (bo us).length) ⟨lo,H'⟩):
  Wq (ay P0 C (V.bi "len") [ay P0 C (V.ty "set") [gu P0 (ik [none,none,none]) (ae i) (dg [aD 1,aD 2]) [] (ae 1)]] ⟨lo,H⟩) Q X:=by
 have hr1:(tr,O.list (us.map λt=>V.ref t.1))∈c:=hr.1
 refine aR<|au<|aR<|au<|mP (items:=us.map λt=>V.ref t.1) (o:=some (tr,us.map λt=>V.ref t.1)) (lo':=[none,none,none]) (λvs ys lo1 c1=>aO (c1=c) (cW λx y z=>lo1=[x,y,z]) (bT λ(d r:Us)=>aO (us=d++r) (vs=r.map λt=>V.ref t.1) (ys=(d.map λt=>t.2.1).map V.int))) rfl (by rw[aad];lia)
  (aj e0 ⟨rfl,c,h,?_,rfl,⟨_,_,_,rfl⟩,[],us,rfl,rfl,rfl⟩) (λvs ys lo1 c1 st J h9=>?_) (λv vs ys lo1 c1 H1 t J h=>?_) λys lo1 c1 H' t J h=>?_
 ·show(Lite.obj tr>>=km tr) _=_
  rw[cb (mK (h.get hr1))]
  show(Lite.guard (decide ((us.map λt=>V.ref t.1).length<=lim))>>=λ_=>aak _) _=_
  rw[cb (yM (decide_eq_true (by rw[aad];exact aah hl (b6 rfl))))];rfl
 ·obtain⟨rfl,_⟩:=J
  exact sv (h9.get hr1)
 ·obtain⟨rfl,⟨x,y,z,rfl⟩,d,r,e1,e2,rfl⟩:=J
  cases r with
  |nil=>contradiction
  |cons u r=>
   obtain⟨rfl,rfl⟩:=abU.inj e2
   have hu:u∈us:=by rw[e1];exact aac _ (.head _)
   obtain⟨a,x,o⟩:=u
   have et:H1[a]? =some (.tuple [.int x,.bytes o]):=h.get (.tail _ (hr.2 _ hu))
   refine d6 et<|aF<|aF ?_
   refine(show Wq (allM .And [] ⟨_,H1⟩) _ nx from ?_)
   refine aq ?_
   unfold oR
   refine aj rfl ?_
   exact⟨_,h,rfl,⟨_,_,_,rfl⟩,d++[(a,x,o)],r,by rw[e1,aaf];rfl,rfl,by rw[aaq,aaq];rfl⟩
 ·obtain⟨rfl,_,d,r,e1,e2,rfl⟩:=J
  have he:r=[]:=abr.mp e2.symm
  subst he
  rw[aar]at e1
  subst e1
  refine ar<|RC h h.hd (by rw[aad];lia) λH t2 h=>ar<|RE h.hd ?_
  rw[RD]
  exact q H h.bg.bg
end
section
variable {X:Xp} {lo:Lo} {H:Hp} {n p N:Nat} {F:List Cl}
theorem RG{lo:Lo}{i c:Nat}{v:V}(e:lo[i]? =some (some (.ref c)))(e2:H[c]? =some (.cell (some v))):Lite.dM i ⟨lo,H⟩=.ok v ⟨lo,H⟩:=by
 unfold Lite.dM;rw[rZ e e2];rfl
theorem RH{Q:V->Sp}{cc B k:Nat}(hm:ik [none,none,none,none,some 1] lo=some [none,none,none,none,some (.ref cc)])(e3:lo[3]? =some (some (.int B)))(h:Pl H p N ((cc,.cell (some (.ref p)))::F))(hN:N<=500)(hB:B<=9)
  (q:∀ H' t (vs:List By),vs.length=B->(∀ b∈vs,((b:By).length:Int)=16)->Pl H' p (N+9) ((t,.list (vs.map V.bytes))::(cc,.cell (some (.ref p)))::F)->Q (.ref t) ⟨lo,H'⟩):
  Wq (gu P0 (ik [none,none,none,none,some 1]) (ay P0 (Rn (k+1) n) (V.ty "range") [ae 3]) (aD 1) [] (ay P0 (Rn (k+1) n) (V.ty "bytes") [aJ .Add (aJ .Mult (listS [ay P0 (Rn (k+1) n) (V.ah 551) [dM 4,pure (V.int 256)]]) (pure (V.int 15))) (listS [ae 1])]) ⟨lo,H⟩) Q X:=by
 obtain⟨w,j,h1,h2,h3,h⟩:=h
 refine mP (items:=(aaw B).map λ(k:Nat)=>V.int k) (o:=none) (lo':=[none,none,none,none,some (.ref cc)]) (λvs ys lo1 c1=>gf λw j i bs x=>gd (aO (0<=w) (0<=j) (j<=((N+i:Nat):Int))) (c1=(p,iF w j)::(cc,.cell (some (.ref p)))::F) (lo1=[none,x,none,none,some (.ref cc)]) (aO (i<=B) (vs=((aaw B).drop i).map λ(k:Nat)=>V.int k) (ys=bs.map V.bytes)) (bs.length=i∧∀ b∈bs,((b:By).length:Int)=16)) hm (by rw[aad,aap];lia)
  (aR<|au<|aj e3<|ar<|iz h λH r h=>⟨rfl,_,h.bg,iA h.hd (by lia),w,j,0,[],_,⟨h1,h2,h3⟩,rfl,rfl,⟨abh _,rfl,rfl⟩,rfl,λ_ z=>(nomatch z)⟩) (λ_ _ _ _ _ _ _=>rfl) (λv vs ys lo1 c1 H1 t J h=>?_) λys lo1 c1 H' t J h=>?_
 ·obtain⟨w,j,i,bs,x,⟨h1,h2,h3⟩,rfl,rfl,⟨hi,ev,rfl⟩,hbs,hb⟩:=J
  have hkn:i<B:=by
   rcases aep i B with q |q
   ·exact q
   ·rw[aby (by rw[aap];exact q)]at ev;contradiction
  rw[<-abx (h:=by rw[aap];exact hkn),aaH,abl]at ev
  obtain⟨rfl,rfl⟩:=abU.inj ev
  refine aF ?_
  refine(show Wq (allM .And [] ⟨_,H1⟩) _ nx from ?_)
  refine aq ?_
  unfold oR
  refine tE (x:=i) (N:=N+i) (F:=(t,.list (bs.map V.bytes))::(cc,.cell (some (.ref p)))::F) ⟨w,j,h1,h2,h3,h.sw⟩ (by lia) (λh=>?_) (λh=>rfl) (by lia) λH b hl h=>?_
  ·exact RG rfl (h.on (cc,.cell (some (.ref p))) (.tail _ (.tail _ (.head _))))
  ·obtain⟨w,j,h1,h2,h3,h⟩:=h
   exact⟨_,h.sw,w,j,i+1,bs++[b],_,⟨h1,h2,h3⟩,rfl,rfl,⟨hkn,rfl,by rw[aaq];rfl⟩,by rw[aag,hbs];rfl,λc hc=>(aav.mp hc).elim (hb c) λz=>by rw[aaP.mp z];exact hl⟩
 ·obtain⟨w,j,i,bs,x,⟨h1,h2,h3⟩,rfl,rfl,⟨hi,ev,rfl⟩,hbs,hb⟩:=J
  have hkn:B<=i:=by
   have:=abr.mp ev.symm
   have:=abW.mp this
   rwa [aap]at this
  exact q H' t bs (by lia) hb ⟨w,j,h1,h2,by lia,h.sw⟩
end
abbrev gF(sc:V)(cc:Nat)(wide:Bool)(B:Int)(x4 x5 x6 x7 x8 x9:Option V):Lo:=[some sc,some (.ref cc),some (.bool wide),some (.int B),x4,x5,x6,x7,x8,x9,none,none,none,none,none,none,none,none,none,none,none,none]
section
variable {X:Xp} {H:Hp} {n:Nat} {F:List Cl}
theorem RI{Q:Fl->Sp}{sc:V}{s:Dk}{vs:List By}{us:Us}{cc tv tr m:Nat}{wide:Bool}{B:Int}{x8 x9:Option V}(h:Holds H (av s++F))(I:zG s vs.length 16 vs.length 1 none (aM (vW vs vs.length) λ_=>zeros 16))(vo:lk vs)(hv:(tv,O.list (vs.map V.bytes))∈F)(hr:fZ F tr us)(ro:dU vs.length us)(hm:m=1∨m=2)
  (q:∀ H',Holds H' F->Wq (ax (mx (Rn 9 n)) ⟨gF sc cc wide B (some (.ref tv)) (some (.ref tr)) (some (.int m)) (some (.ref s.dk)) x8 x9,H'⟩) Q X):
  Wq (ax (ya (Rn 9 n)) ⟨gF sc cc wide B (some (.ref tv)) (some (.ref tr)) (some (.int m)) (some (.ref s.dk)) x8 x9,H⟩) Q X:=by
 obtain⟨l7,l9⟩:=vo.l
 have l5:5<=vs.length∧vs.length<=100:=⟨aah (by decide) l7,aah l9 (by decide)⟩
 have l3:(bo us).length<=3:=ro.d us [] (aar _).symm
 have fin:∀ {H:Hp} {s':Dk},bR s'->Tr s s' (cw 1 16 (aM (b7 us) (aI s)) (bo us))->Holds H (av s'++F)->Wq (allM .Or [(ay P0 (Rn 9 n) (V.ah 584) [ae 7])>>=λa=>aV a [.NotEq] [ay P0 (Rn 9 n) (V.ah 591) [ae 4,ae 5]]] ⟨gF sc cc wide B (some (.ref tv)) (some (.ref tr)) (some (.int m)) (some (.ref s.dk)) x8 x9,H⟩) (my (bQ (mx (Rn 9 n)) Q X)) X:=λ{H s'} k T h=>by
  have ed:cn s'.B (aI s')=cn vs.length (aM (b7 us) (eY vs)):=by
   rw[T.B,I.B]
   exact jX (λk h0 h1 hk=>(T.lt k).trans ((th (z:=4) (by lia) hk λz=>Ah z _).trans (tD ((I.lt k).trans (Ak h0 h1))))) (abg.mpr l5.1)
  refine o3<|af<|fo rfl rfl ?_
  have e:=z7 (n:=n+6) h k (by rw[T.B,I.B];exact abg.mpr l5.1) (Q:=λv H=>Wq (aV v [.NotEq] [ay P0 (Rn 9 n) (V.ah 591) [ae 4,ae 5]] ⟨gF sc cc wide B (some (.ref tv)) (some (.ref tr)) (some (.int m)) (some (.ref s.dk)) x8 x9,H⟩) (my (bQ (mx (Rn 9 n)) Q X)) X) (X:=X) λH t h=>?_
  ·rw[T.dk]at e;exact e
  rw[ed]at h
  refine bu<|fo rfl rfl<|z9 h (.tail _ (aac _ hv)) l5 ⟨.tail _ (aac _ hr.1),λt m=>.tail _ (aac _ (hr.2 t m))⟩ ro λH t2 h=>?_
  refine kW (r:=true) ((kU (sY 2) (h.kT (.head _)) (h.on _ (.tail _ (.head _))) h.hd).trans (congrArg some (decide_eq_true rfl))) ⟨rfl,?_⟩
  exact q H (h.bg.bg.sub (aaG _ _))
 refine ag<|dC<|dD<|af<|fo rfl rfl<|z6 h I.ok I.un I.S (by rw[I.B];exact abg.mpr l5.1) (by rw[I.w];lia) hr (by rw[I.B];exact ro) hm (λa o b e s' H k T bl h=>?_) λH s' k T h=>du (fin k T h)
 cases o with
 |none=>exact k6 (T.lf.trans I.lf) bl
 |some w=>exact jc (T.la.trans I.la) bl
end
section
variable {X:Xp} {H:Hp} {n:Nat} {F:List Cl}
theorem RJ{Q:Qh}{sc:V}{vs:List By}{us:Us}{cc tv tr m:Nat}{wide:Bool}{B:Int}{x7 x8 x9:Option V}(h:Holds H F)(vo:lk vs)(hv:(tv,O.list (vs.map V.bytes))∈F)(hr:fZ F tr us)(ro:dU vs.length us)(hm:m=1∨m=2)
  (q:∀ H',Q (.bool true) H'):
  Wq (ax (mx (Rn 9 n)) ⟨gF sc cc wide B (some (.ref tv)) (some (.ref tr)) (some (.int m)) x7 x8 x9,H⟩) (cP Q) X:=by
 have l3:(bo us).length<=3:=ro.d us [] (aar _).symm
 have fin:∀ {H:Hp} {x8 x9:Option V},Wq (ax (xZ (Rn 9 n)) ⟨gF sc cc wide B (some (.ref tv)) (some (.ref tr)) (some (.int m)) x7 x8 x9,H⟩) (cP Q) X:=ag<|cQ<|aq<|q _
 refine ag<|aY<|RF (i:=5) rfl h hr ro.l λH h=>aF ?_
 refine ag<|jR (n:=4) (g:=λ(k:Nat)=>V.int k) (λk st=>∃ x9,st.lo=gF sc cc wide B (some (.ref tv)) (some (.ref tr)) (some (.int m)) x7 (some (.int (bo us).length)) x9∧Holds st.H F)
  (aR<|ba rfl<|iz h λH r h=>⟨iA (n:=4) h.hd (by decide),_,rfl,h.bg⟩) (λk st hk I=>?_) λst I=>?_
 ·obtain⟨_,hlo,h⟩:=I
  obtain⟨lo,H⟩:=st
  subst hlo
  exact aF<|ag<|dC<|af<|af<|fo rfl rfl<|Al (c:=k) (fl:=true) h vo hv hr ro hm hk λH h=>du<|aq ⟨rfl,⟨_,rfl,h⟩⟩
 ·obtain⟨_,hlo,h⟩:=I
  obtain⟨lo,H⟩:=st
  subst hlo
  unfold bQ
  cases wide with
  |true=>
   refine ag<|jR (n:=2*(bo us).length+2) (g:=λ(k:Nat)=>V.int k) (λk st=>∃ x9,st.lo=gF sc cc true B (some (.ref tv)) (some (.ref tr)) (some (.int m)) x7 (some (.int (bo us).length)) x9∧Holds st.H F)
    (gR<|af<|aj rfl<|du<|aR<|au<|aZ<|aZ<|aq<|aj rfl<|iy (.inl (by decide))<|aq<|cK<|ar<|iz h λH r h=>⟨iA (n:=2*(bo us).length+2) h.hd (by lia),_,rfl,h.bg⟩) (λk st hk I=>?_) λst I=>?_
   ·obtain⟨_,hlo,h⟩:=I
    obtain⟨lo,H⟩:=st
    subst hlo
    exact aF<|ag<|dC<|af<|af<|fo rfl rfl<|Al (c:=k) (fl:=false) h vo hv hr ro hm hk λH h=>du<|aq ⟨rfl,⟨_,rfl,h⟩⟩
   ·obtain⟨_,hlo,h⟩:=I
    obtain⟨lo,H⟩:=st
    subst hlo
    exact fin
  |false=>
   refine ag<|zm (gR<|af<|aj rfl<|du<|oI<|ar ⟨rfl,?_⟩)
   refine⟨H.length,[],λvs st=>vs=[]∧st.H[H.length]? =some (.list [])∧st.lo=gF sc cc false B (some (.ref tv)) (some (.ref tr)) (some (.int m)) x7 (some (.int (bo us).length)) _,rfl,rfl,⟨rfl,fX,rfl⟩,λvs st I=>I.2.1,λv vs st I=>?_,λst I=>?_⟩
   ·exact nomatch I.1
   ·obtain⟨lo,H⟩:=st
    obtain⟨_,_,hlo⟩:=I
    subst hlo
    exact fin
end
section
variable {X:Xp} {H:Hp} {n p N:Nat} {F:List Cl}
theorem RK{Q:Qh}{sc:V}{cc tv B:Nat}{wide:Bool}{vs:List By}(h:Pl H p N ((tv,.list (vs.map V.bytes))::(cc,.cell (some (.ref p)))::F))(hN:N<=500)(vo:lk vs)(eB:vs.length=B)(q:∀ H',Q (.bool true) H'):
  Wq (ax (yc (Rn 9 n)) ⟨gF sc cc wide B (some (.ref tv)) none none none none none,H⟩) (cP Q) X:=by
 subst eB
 obtain⟨l7,l9⟩:=vo.l
 have hc:H[cc]? =some (.cell (some (.ref p))):=by obtain⟨w,j,_,_,_,h⟩:=h;exact h.on _ (.tail _ (.tail _ (.head _)))
 have go:∀ {H:Hp} {tr m:Nat} {us:Us},m=1∨m=2->dU vs.length us->Pl H p (N+8) ((tr,dK us)::(us.map cS++(tv,.list (vs.map V.bytes))::(cc,.cell (some (.ref p)))::F))->Wq (ax (yb (Rn 9 n)) ⟨gF sc cc wide vs.length (some (.ref tv)) (some (.ref tr)) (some (.int m)) none none none,H⟩) (cP Q) X:=λ{H tr m us} hm ro h=>by
  obtain⟨w,j,_,_,_,h⟩:=h
  have h:=h.bg
  have hv:(tv,O.list (vs.map V.bytes))∈(tr,dK us)::(us.map cS++(tv,.list (vs.map V.bytes))::(cc,.cell (some (.ref p)))::F):=.tail _ (aac _ (.head _))
  have hr:fZ ((tr,dK us)::(us.map cS++(tv,.list (vs.map V.bytes))::(cc,.cell (some (.ref p)))::F)) tr us:=⟨.head _,λt m=>.tail _ (aao _ (abp m))⟩
  refine ag<|aY<|fo rfl rfl<|zI h hv ⟨aah (by decide) l7,aah l9 (by decide)⟩ vo.z λH s I h=>aF ?_
  exact RI h I vo hv hr ro hm λH h=>RJ h vo hv hr ro hm q
 refine ag<|aY<|aR<|au<|iY rfl hc<|ba rfl<|gy rfl<|RB h (aah hN (by decide)) ⟨abg.mpr l7,abg.mpr l9⟩ λH tr us ro h=>aF ?_
 refine ag<|aY<|aZ<|aq<|gR<|af<|aj rfl<|du ?_
 cases wide with
 |false=>exact aq<|cK<|aF<|go (m:=1) (.inl rfl) ro (h.mono (adE _))
 |true=>
  have hc:H[cc]? =some (.cell (some (.ref p))):=by obtain⟨w,j,_,_,_,h⟩:=h;exact h.on _ (.tail _ (.tail _ (aac _ (.tail _ (.head _)))))
  refine aR<|au<|iY rfl hc<|ba rfl<|gy rfl<|lp h (by lia) (by decide) (by decide) λH d d0 d1 h=>cK<|aF ?_
  have e:1+d=((1+d).toNat:Int):=by lia
  rw[e]
  exact go (m:=(1+d).toNat) (by lia) ro h
end
section
variable {X:Xp} {C:Ct} {lo:Lo} {H:Hp}
theorem RL{Q:V->Sp}{xs:List Int}(h:xs.length<=lim)(q:Q (.int xs.length) ⟨lo,H⟩):Wq (aP P0 C true (.bi "len") [.ints xs] ⟨lo,H⟩) Q X:=by
 have e2:aP P0 C true (.bi "len") [.ints xs] ⟨lo,H⟩=(Lite.guard (decide (xs.length<=lim))>>=λ_=>aak (V.int xs.length)) ⟨lo,H⟩:=by kernel_rfl
 rw[e2]
 exact af<|bp (decide_eq_true h) q
end
section
variable {X:Xp} {H:Hp} {n:Nat}
theorem RM{Q:Qh}{xs:List Int}(hl:xs.length<=1000)(q:∀ H',Q (.bool true) H'):Cq (Rn 10 n (.ah 608) [.ints xs] []) Q X:=by
 rw[NM]
 have h0:Holds ([]:Hp) []:=⟨λ_ z=>(nomatch z),abC⟩
 have h:=h0.new (.cell none)
 show Cq (bk (ax (yd (Rn 9 n)) ⟨ye (.ints xs) 0,[]++[O.cell none]⟩)) Q X
 have h:Holds ([]++[O.cell none]) [(0,O.cell none)]:=h
 generalize []++[O.cell none]=H at h
 refine Cq.fin<|ag<|aY<|jO<|au<|fo rfl rfl<|Rv h hl λH p w hw h=>au<|jJ<|aR<|ba rfl<|RL (aah hl (b6 rfl))<|aq<|iZ (r:=decide ((xs.length:Int)>1)) rfl<|ar ⟨rfl,?_⟩
 generalize decide ((xs.length:Int)>1)=wide
 have h:=h.app [O.tuple [.ref p,.bool wide]]
 refine d6 fX<|ym rfl (h.on _ (.tail _ (.head _)))<|aF ?_
 generalize H++[O.tuple [.ref p,.bool wide]]=H at h ⊢
 have h:=h.dZ (.cell (some (.ref p)))
 generalize H.set 0 (.cell (some (.ref p)))=H at h
 have h:Pl H p 0 ((0,.cell (some (.ref p)))::[]):=⟨w,0,hw,acS 0,acS 0,h⟩
 have hc:H[0]? =some (.cell (some (.ref p))):=by obtain⟨w,j,_,_,_,h⟩:=h;exact h.on _ (.tail _ (.head _))
 refine ag<|aY<|aZ<|aq<|aR<|au<|iY rfl hc<|ba rfl<|gy rfl<|lp h (by decide) (by decide) (by decide) λH d d0 d1 h=>cK<|aF ?_
 have e:7+d=((7+d).toNat:Int):=by lia
 rw[e]
 have hB:7<=(7+d).toNat∧(7+d).toNat<=9:=by lia
 generalize (7+d).toNat=B at hB
 refine ag<|aY<|RH (B:=B) rfl rfl h (by decide) hB.2 λH tv vs hvl hz h=>aF ?_
 obtain⟨w,j,h1,h2,h3,h⟩:=h
 refine ag<|aY<|aR<|au<|aq<|ar<|r4 ⟨by decide,kQ (by decide)⟩<|af<|aj rfl<|af<|aq<|o5 (k:=1) rfl (h.on _ (.tail _ (.head _))) (by rw[aad,hvl];exact aah hB.2 (b6 rfl)) (by rw[aad,hvl];exact abV (by decide) hB.1) (h.dZ _) λH h=>?_
 have l1:1<vs.length:=by rw[hvl];exact abV (by decide) hB.1
 have em:(vs.map V.bytes).set 1 (.bytes (aaT (16:Int).toNat 0))=(vs.set 1 (zeros 16)).map V.bytes:=by rw[ajG];rfl
 rw[em]at h
 refine RK (N:=0+1+9) (vs:=vs.set 1 (zeros 16)) ⟨w,j,h1,h2,h3,h⟩ (by decide) ⟨by rw[adu,hvl];exact hB,λb hb=>?_,?_⟩ (by rw[adu,hvl]) q
 ·rcases List.mem_or_eq_of_mem_set hb with hb |rfl
  ·exact hz b hb
  ·rfl
 ·show(vs.set 1 (zeros 16)).getD 1 []=zeros 16
  rw[zK l1]
  exact if_pos rfl
end
theorem PySem.W.holds_open{r:OpenRow}{q:acI}{loose:List Str}{Xt:aaC->Bool}{XP:(Str->Option Value)->Heap->Prop}{α:Type}{Yf:aaC->α}{Ya:World->α}{YP:World->Heap->Prop}{d:DefRec}{kwd:List (Str×ahV)}{N:Nat}
  (left:LeftO r.prog q loose Xt Yf Ya N) (hY:∀ w s,Yf s=Ya w->YP w s.heap) (hYk:∀ w h h',YP w h->(∀ b o,h.get? b=some o->h'.get? b=some o)->YP w h')
  (hX:∀ s,Xt s=true->XP (s.heap.nsMap acQ) s.heap) (hXk:∀ mg h h',XP mg h->(∀ b o,h.get? b=some o->h'.get? b=some o)->XP mg h')
  (hdef:defOf q r.name=some (d,kwd)) (hp:r.prog.theDef r.name=some (d.params,d.body,d.scope)) (hk:kwWritten? d.params.kwonlyargs d.params.kw_defaults=some kwd) (hRf:∀ s,Xt s=true->RecFacts r.records s.heap) (hwr:(!r.writes||r.records.isEmpty)=true)
  (k1:r.wellSaid=true) (ok:(chainsOk q&&opensWell r.prog&&(frees r.toRowW&&r.within.isEmpty))=true) (hb:r.prog.bare) (hw:r.toRowW.promised)
  (call:xt q loose XP YP r.toRowW d kwd λf vs=>aal f vs):r.Holds:=by
 have hch:chainsOk q=true:=(aab.mp (aab.mp ok).1).1
 have H:=open_anyG (r:=r.toRowW) (defs:=if r.pinned then [r.name]else []) (kps:=r.keeps) (writes:=r.writes)
  (run:=λf vs=>gr (.bool true) (aal f vs))
  (tree:=λvs=>gr (.done (.ret (.bool true))) (do match<-nsGet mainNs r.name with
   |some f=>do ret (<-aal f vs)
   |none=>ajd "claim.caller:no-such-global")) left hY hYk hX hXk hRf hwr ok hb hw
  (λvs w s mg f Q E hg hf h=>by
   have h':=Ih h
   refineλΓ p hΓ=>?_
   have h:=h Γ p hΓ
   unfold gr at h ⊢
   rw[ahq]at h ⊢
   cases e:jG ((Γ.code,p)::Γ.below)with
   |true=>rw[e,if_pos rfl,ahU]at h;rw[if_pos rfl,ahU];exact h
   |false=>
    rw[if_neg abe]
    have n:=xr e
    exact aC (wpAny_nsGet hg (by rw[hf];exact az (fH h' (λv s' q=>aK q) λ_ _ q=>q))) Γ p hΓ ⟨n _ (.head _),λx hx=>n x (.tail _ hx)⟩)
  (λw s hg G n hn=>by
   obtain rfl:n=r.name:=by split at hn<;>simp_all
   exact pinned_of_view hg G hdef hp hk)
  λw s₀ s₁ mg mb G Y args vs as hpre hlay L low=>by
   obtain⟨a,o,pm,cd,doc,dV,kV,h1,h2,h3,h4,h5⟩:=G.fn hdef
   obtain⟨z1,z2⟩:=call w s₀ s₁ mg mb G Y a o pm cd doc dV kV h2 h3 h4 h5 (defOf_name hdef▸h1) L.gens args vs as hpre hlay L.reads L.well (L.low low)
   exact⟨.ref a,h1,Ig z1 z2⟩
 refine⟨k1,hw,H.1,H.2.1,λw=>⟨(H.2.2 w).1,λs hs=>?_⟩⟩
 obtain⟨s₀,hf,hg0,s₁,T,pins,rec1,rec2,cf⟩:=(H.2.2 w).2 s hs
 refine⟨s₀,hf,hg0,s₁,T,pins,rec1,rec2,λargs hpre hlay ord hord=>?_⟩
 obtain⟨vs,s₂,hlaid,n,o,s',hsched,rest⟩:=cf args hpre hlay ord hord
 have hz:s₂.asleep:=by
  obtain⟨s0',hf',_,s1',T',hz',_⟩:=(left.behind hX hch w).2 s hs
  obtain rfl:s0'=s₀:=aae.inj (hf'.symm.trans hf)
  refine aaC.asleep_of_life ?_ hz'
  have hal:=layAllW_rest _ _ _ hlaid
  exact hal.2.2.2.trans (T.2.1.trans T'.2.1.symm)
 obtain⟨n',hn'⟩:=Ii hz hsched
 exact⟨vs,s₂,hlaid,n',o,s',hn',rest⟩
end
end Lite
namespace Lite.hd
def tw10005708024487084042:=Nat
def tw10011312464584211505:=Nat
def tw10022822789989958569:=Nat
def tw10028126384241447778:=Nat
def tw10060109218636627014:=Nat
def tw1006447886073748375:=Nat
def tw10068815695744845896:=Nat
def tw10083195486772392327:=Nat
def tw10222554513853111793:=Nat
def tw10228217655825320656:=Nat
def tw10288397530738588594:=Nat
def tw10318939863778940896:=Nat
def tw1032121490735964090:=Nat
def tw10346325289775363057:=Nat
def tw10350172498889472320:=Nat
def tw10357302057775344044:=Nat
def tw10375530704238758956:=Nat
def tw10382545796240341964:=Nat
def tw10412001754727742310:=Nat
def tw10420880417304633488:=Nat
def tw10424473435592312539:=Nat
def tw10427751870231444934:=Nat
def tw10433864365288488859:=Nat
def tw10456631225730433462:=Nat
def tw10457659154352249693:=Nat
def tw105112615733742124:=Nat
def tw10523502157812301366:=Nat
def tw10529838514991031212:=Nat
def tw10535304684341447523:=Nat
def tw10543284712294097776:=Nat
def tw10554569866526182532:=Nat
def tw10578695669695947952:=Nat
def tw10642041169696857302:=Nat
def tw10658760393784390279:=Nat
def tw1068876486961362188:=Nat
def tw10725329949708198185:=Nat
def tw10745569081203039971:=Nat
def tw10746496018480353898:=Nat
def tw10768562862562443505:=Nat
def tw10773670307314495196:=Nat
def tw10787808555608247006:=Nat
def tw10875938341122902778:=Nat
def tw10891298155748464496:=Nat
def tw10897574390592710727:=Nat
def tw1093326032766098428:=Nat
def tw1102226704895469226:=Nat
def tw11023957219096726726:=Nat
def tw11082407105735558854:=Nat
def tw11153394562281038759:=Nat
def tw11165880385530193541:=Nat
def tw11179705233649398083:=Nat
def tw11187022684911276607:=Nat
def tw11299519638263910551:=Nat
def tw11300703203500378111:=Nat
def tw11308056178077938841:=Nat
def tw11341743262503143626:=Nat
def tw1134360717933597955:=Nat
def tw11358177363491034274:=Nat
def tw11368657528043545684:=Nat
def tw11428183992369747606:=Nat
def tw11451130649805867234:=Nat
def tw1145749445802207624:=Nat
def tw11480413038915020339:=Nat
def tw11487646216699699458:=Nat
def tw11506008993456800206:=Nat
def tw11511306892852253674:=Nat
def tw1154820374619876825:=Nat
def tw11558674442398029223:=Nat
def tw11569723641731629667:=Nat
def tw11588326903324763540:=Nat
def tw11641999107681390898:=Nat
def tw11658797403040910497:=Nat
def tw11662090894961510328:=Nat
def tw11718190357696531347:=Nat
def tw11727812069784809677:=Nat
def tw1175633879434396754:=Nat
def tw11789442136190427500:=Nat
def tw11805807847957591702:=Nat
def tw11806123436949482536:=Nat
def tw11808873570836376911:=Nat
def tw11846234276193535410:=Nat
def tw11873609422401581029:=Nat
def tw11898049202504177958:=Nat
def tw11898436918360642056:=Nat
def tw11920076947733438582:=Nat
def tw11942424571020991628:=Nat
def tw1197747643722640119:=Nat
def tw11998778745327432924:=Nat
def tw12021184362895309747:=Nat
def tw12063882489928725548:=Nat
def tw12066780113378734313:=Nat
def tw12091945213219071218:=Nat
def tw12092532907555851223:=Nat
def tw12101819598589348812:=Nat
def tw12145461110170802134:=Nat
def tw12148376282459401439:=Nat
def tw12177185315091323906:=Nat
def tw12211624853788787798:=Nat
def tw12236624510410808224:=Nat
def tw12238082117827273116:=Nat
def tw12241983569398094556:=Nat
def tw12273428314367945320:=Nat
def tw12282724558898385875:=Nat
def tw12336840107074553721:=Nat
def tw12360120175697936053:=Nat
def tw12370352457906923431:=Nat
def tw12370471417227883562:=Nat
def tw12375973347951663681:=Nat
def tw12376827825827117492:=Nat
def tw12415455316123612837:=Nat
def tw12458881536722568037:=Nat
def tw1246541338861652678:=Nat
def tw12465547818603193400:=Nat
def tw12470619691349924896:=Nat
def tw12492751795189919409:=Nat
def tw1253017371831836766:=Nat
def tw12534258455594352464:=Nat
def tw12535813494482307020:=Nat
def tw12653189214734413593:=Nat
def tw12683416081208198298:=Nat
def tw12688178368915693734:=Nat
def tw12706229678847623779:=Nat
def tw12730092551379993043:=Nat
def tw12767881980255117880:=Nat
def tw12781708100756627869:=Nat
def tw12795777727929255997:=Nat
def tw12809369457247244713:=Nat
def tw12813162354880568069:=Nat
def tw12834644003903032553:=Nat
def tw12897511918057833332:=Nat
def tw12919854379792328417:=Nat
def tw12943015651364807464:=Nat
def tw12957086007811978591:=Nat
def tw12984241800132323522:=Nat
def tw12996973988565535469:=Nat
def tw12998129971687919274:=Nat
def tw13011318089250428836:=Nat
def tw13045236482974333688:=Nat
def tw13046730917185994173:=Nat
def tw13097933343451868573:=Nat
def tw13116400512373059645:=Nat
def tw13203907535008463227:=Nat
def tw13214976473800164914:=Nat
def tw13221508677711586540:=Nat
def tw13239694463932870477:=Nat
def tw13253544788863911686:=Nat
def tw1326615695238750319:=Nat
def tw13268795890764257625:=Nat
def tw13332433591415063689:=Nat
def tw13338820911721678222:=Nat
def tw13371171522301085020:=Nat
def tw13374151487577448374:=Nat
def tw13400751425427796804:=Nat
def tw13446709569918193758:=Nat
def tw13456180967355966804:=Nat
def tw1347727636278356736:=Nat
def tw13483368383104941393:=Nat
def tw13501668769214126979:=Nat
def tw13518644851810262741:=Nat
def tw13556454878141898273:=Nat
def tw13574434589379649762:=Nat
def tw13590521693783735962:=Nat
def tw13645383178779639421:=Nat
def tw13649332882585609679:=Nat
def tw13651126325703100396:=Nat
def tw13666444802638093426:=Nat
def tw13709525136675953775:=Nat
def tw13741482209453106019:=Nat
def tw1377593146290591511:=Nat
def tw13792293063508959058:=Nat
def tw13810420479367763768:=Nat
def tw13830625051240878603:=Nat
def tw13878061154830966969:=Nat
def tw1390183723866889434:=Nat
def tw13935403915731964256:=Nat
def tw13942914384818928214:=Nat
def tw13947147581560783888:=Nat
def tw1395320363199090872:=Nat
def tw13972555364670716581:=Nat
def tw13977321873979072752:=Nat
def tw14021619795597152209:=Nat
def tw14049933392675454870:=Nat
def tw14061538536956899653:=Nat
def tw14076691992004652796:=Nat
def tw14146533939509116045:=Nat
def tw14149447352732621952:=Nat
def tw14165574844230230654:=Nat
def tw14174127167598438318:=Nat
def tw14192530224294190564:=Nat
def tw14203274533107336906:=Nat
def tw14226575706604133568:=Nat
def tw14255490028455655972:=Nat
def tw14298172855851728559:=Nat
def tw14370485791786362658:=Nat
def tw14377286596547016607:=Nat
def tw14416762764198358317:=Nat
def tw14431430363997990938:=Nat
def tw14431553750589714415:=Nat
def tw14459539495166095372:=Nat
def tw14468951771147876475:=Nat
def tw14500168066690857469:=Nat
def tw1450318124306955647:=Nat
def tw14504105319968488518:=Nat
def tw14517460688949435820:=Nat
def tw14555908325915970971:=Nat
def tw14570544649545568281:=Nat
def tw14576803631643464322:=Nat
def tw14595900911178361620:=Nat
def tw14598606199018977984:=Nat
def tw14640876081452949519:=Nat
def tw1465111661297063587:=Nat
def tw14705274030564696555:=Nat
def tw14731194676214942922:=Nat
def tw14747500774228690956:=Nat
def tw14757280620848790026:=Nat
def tw14776983237585204006:=Nat
def tw14809580601537978664:=Nat
def tw14859240857207920781:=Nat
def tw14862555161635505114:=Nat
def tw14872506480935821708:=Nat
def tw14921103232786867431:=Nat
def tw14922628098411965389:=Nat
def tw14947242766895990787:=Nat
def tw14974322346001899085:=Nat
def tw14977040704580438547:=Nat
def tw15027724629572137064:=Nat
def tw15056490310582513454:=Nat
def tw15115346496157789301:=Nat
def tw15154906962887941119:=Nat
def tw15162531745308580033:=Nat
def tw15168024749663596480:=Nat
def tw1517707228089475167:=Nat
def tw15183339748518857935:=Nat
def tw15185421151565412665:=Nat
def tw15188352297153259452:=Nat
def tw15225386557174564548:=Nat
def tw15242434808712734635:=Nat
def tw15243859920225897611:=Nat
def tw15261042430103542392:=Nat
def tw15266561612236936722:=Nat
def tw15281271222831152564:=Nat
def tw15284754578840542937:=Nat
def tw15293741976013674066:=Nat
def tw15296407428241563023:=Nat
def tw15321185713046780365:=Nat
def tw15321510933553317311:=Nat
def tw15361992017524346438:=Nat
def tw154688917752741434:=Nat
def tw1547267054170488586:=Nat
def tw1547936858742680320:=Nat
def tw15487514558044485362:=Nat
def tw15515723892874785794:=Nat
def tw15525947789364086836:=Nat
def tw15540936918677963762:=Nat
def tw15563536642949451641:=Nat
def tw15569478525757061999:=Nat
def tw15592130015348200817:=Nat
def tw15593137607315998302:=Nat
def tw15602028455269058591:=Nat
def tw15647512147010798473:=Nat
def tw15677399141575038083:=Nat
def tw15679199706442594557:=Nat
def tw15682248049098952552:=Nat
def tw15693238132707138340:=Nat
def tw15776132604372054689:=Nat
def tw15803384439870940541:=Nat
def tw1582935998727909762:=Nat
def tw15838043201382550040:=Nat
def tw15839645625789754532:=Nat
def tw15858188217559433738:=Nat
def tw15894213503130756924:=Nat
def tw15897304265910493800:=Nat
def tw15914305485592862798:=Nat
def tw15977025392646251198:=Nat
def tw15979507332783472857:=Nat
def tw15982129812444183189:=Nat
def tw15983168683859082904:=Nat
def tw15994950879331987827:=Nat
def tw16005547790620229256:=Nat
def tw16044654152121285800:=Nat
def tw16047362025732174408:=Nat
def tw16051047806529525574:=Nat
def tw16051361171202651484:=Nat
def tw16053218145213786778:=Nat
def tw1609838778111431662:=Nat
def tw16113966571225554114:=Nat
def tw16239236154346860841:=Nat
def tw16245335817986715770:=Nat
def tw1628127622534723218:=Nat
def tw16305833442615236795:=Nat
def tw16326230178471293483:=Nat
def tw16328622063910885029:=Nat
def tw16338721909528328247:=Nat
def tw16368819654566819485:=Nat
def tw1637205666986757063:=Nat
def tw16378200226239429930:=Nat
def tw16397140412962037265:=Nat
def tw16400471670205961220:=Nat
def tw16452819772843466330:=Nat
def tw16494035570862978301:=Nat
def tw16502989743899477907:=Nat
def tw16540002922538027381:=Nat
def tw16551585103838419569:=Nat
def tw1657468989109814886:=Nat
def tw16583279116112578569:=Nat
def tw16586234479188578393:=Nat
def tw16629438498196158945:=Nat
def tw16632399359220255494:=Nat
def tw16643126800453206412:=Nat
def tw16644520438819083295:=Nat
def tw16654168964699593975:=Nat
def tw16680221812125375106:=Nat
def tw16719498977788989917:=Nat
def tw16772844464526139287:=Nat
def tw16801754640960095663:=Nat
def tw16959353204117355811:=Nat
def tw1696275988938537112:=Nat
def tw17025891391572175781:=Nat
def tw17028227904664409063:=Nat
def tw1703485479385429847:=Nat
def tw17068847844275218400:=Nat
def tw17135125033139828929:=Nat
def tw1714334723104424408:=Nat
def tw17233827966285697863:=Nat
def tw17280927203850301463:=Nat
def tw17296169380261253902:=Nat
def tw17311607253471228485:=Nat
def tw17316048697388990784:=Nat
def tw17324293617651184102:=Nat
def tw1732501098519999783:=Nat
def tw17346100347606335624:=Nat
def tw17349113968525930593:=Nat
def tw17371650414024925993:=Nat
def tw17379139954018817605:=Nat
def tw17380112668456787324:=Nat
def tw17382689314669072533:=Nat
def tw17423605112839017544:=Nat
def tw1743283376273552926:=Nat
def tw17455294839049547355:=Nat
def tw17470347308905363990:=Nat
def tw17474638727289440975:=Nat
def tw17484935444940836336:=Nat
def tw17491430307806273471:=Nat
def tw17497587547379454486:=Nat
def tw1752248093982456692:=Nat
def tw17547488410203958120:=Nat
def tw17603504800111740767:=Nat
def tw17611808752002295123:=Nat
def tw17691065210395637889:=Nat
def tw17729287382750497891:=Nat
def tw17752321130170505093:=Nat
def tw17767883471638459787:=Nat
def tw17770822359058707321:=Nat
def tw17772237588450045000:=Nat
def tw17800685127791968431:=Nat
def tw17807669913061217518:=Nat
def tw17812775533722517963:=Nat
def tw17817072792448386778:=Nat
def tw17853516713988378740:=Nat
def tw17865726940741893939:=Nat
def tw17881252573898416946:=Nat
def tw17886200183439369910:=Nat
def tw17889480234569622198:=Nat
def tw18014038690726638934:=Nat
def tw18025908251733132280:=Nat
def tw18053589469561098497:=Nat
def tw18071998882718542160:=Nat
def tw18072641722511153688:=Nat
def tw18103869375728043329:=Nat
def tw18150767647232467832:=Nat
def tw18185268802758141157:=Nat
def tw1819547063495803464:=Nat
def tw18217932304809003433:=Nat
def tw1824007131679064849:=Nat
def tw18251802517027997864:=Nat
def tw18301150754784925187:=Nat
def tw18336295576168540576:=Nat
def tw1836400513132937016:=Nat
def tw1845447031319227828:=Nat
def tw1847749304351690186:=Nat
def tw1861282533000026537:=Nat
def tw1887272795189607964:=Nat
def tw1896905785347256386:=Nat
def tw1929849973151575479:=Nat
def tw2033973658703252279:=Nat
def tw2037569894095066193:=Nat
def tw2061100730976839159:=Nat
def tw2061929825369442512:=Nat
def tw2084094027525989262:=Nat
def tw2135298604542755606:=Nat
def tw2210232860973323305:=Nat
def tw2211681444219294996:=Nat
def tw2224320574039912415:=Nat
def tw2297378991512384508:=Nat
def tw2324127535959415842:=Nat
def tw2355265468918955084:=Nat
def tw2381873164734230933:=Nat
def tw2392576626419527358:=Nat
def tw2398855086083314504:=Nat
def tw2403368860429383835:=Nat
def tw2452468835794319112:=Nat
def tw2649356396997660068:=Nat
def tw2656916702608817678:=Nat
def tw2660741866316671196:=Nat
def tw2680507200590810005:=Nat
def tw2718731099837499402:=Nat
def tw2728402104416510987:=Nat
def tw2751251062467010336:=Nat
def tw2757224767296303422:=Nat
def tw2762283968112760762:=Nat
def tw277174618620085063:=Nat
def tw2775664834221094906:=Nat
def tw277683740611452028:=Nat
def tw2790503962140331194:=Nat
def tw2805806931866929604:=Nat
def tw2812088278694869068:=Nat
def tw2826516231587345178:=Nat
def tw284660272656687728:=Nat
def tw2854238159296355849:=Nat
def tw2916805389436004699:=Nat
def tw2924564079855496233:=Nat
def tw2935397852121354034:=Nat
def tw293729559605052250:=Nat
def tw2957336833376251540:=Nat
def tw3002338348370530569:=Nat
def tw3011389993820805383:=Nat
def tw3081568994422714095:=Nat
def tw3091894406907895785:=Nat
def tw3107359725643763546:=Nat
def tw3140138896332664278:=Nat
def tw3141083344605960638:=Nat
def tw3146304632297715607:=Nat
def tw3149599280255061402:=Nat
def tw3172296194753578114:=Nat
def tw3176808119693368933:=Nat
def tw3199497526822938085:=Nat
def tw3222910660002319749:=Nat
def tw3247340549330790479:=Nat
def tw3256005370221396472:=Nat
def tw3274741813005194510:=Nat
def tw3294353612729643847:=Nat
def tw3307405603957310138:=Nat
def tw3335585691516284756:=Nat
def tw3344186498689144370:=Nat
def tw3369705805703858963:=Nat
def tw3427067856132480018:=Nat
def tw3431206677047944467:=Nat
def tw3486747701743991332:=Nat
def tw3510574466941647948:=Nat
def tw3613095236495071739:=Nat
def tw361795773076791647:=Nat
def tw362696018265601567:=Nat
def tw3635524075629141768:=Nat
def tw3645294670253313383:=Nat
def tw3646228370445823705:=Nat
def tw3699603178452469427:=Nat
def tw3703479832433820667:=Nat
def tw372085770248470490:=Nat
def tw3769420787403058365:=Nat
def tw3786374736456985565:=Nat
def tw3832065569215139295:=Nat
def tw3868334482461912025:=Nat
def tw3873983698992401446:=Nat
def tw391339756401334535:=Nat
def tw3939765637985794557:=Nat
def tw3954193056715188733:=Nat
def tw3960566528973700846:=Nat
def tw4029219930823004146:=Nat
def tw4029311698027196215:=Nat
def tw4045490263413826085:=Nat
def tw4066557984878587076:=Nat
def tw4075796534618545665:=Nat
def tw4091116272238160798:=Nat
def tw4098015255076183527:=Nat
def tw4130348438764158093:=Nat
def tw4142291550549690711:=Nat
def tw421518471439461264:=Nat
def tw4222600389112999340:=Nat
def tw4248958333261697039:=Nat
def tw4253553875779902022:=Nat
def tw4345797343417237382:=Nat
def tw4351344034919006955:=Nat
def tw4362503716609032519:=Nat
def tw4417371210222699279:=Nat
def tw4421307403840308223:=Nat
def tw4442430544916312249:=Nat
def tw4469572898536590073:=Nat
def tw447217072206621937:=Nat
def tw4484197830830712437:=Nat
def tw4512281229633303718:=Nat
def tw4535805459210966620:=Nat
def tw4545526765385549069:=Nat
def tw4613534508946790816:=Nat
def tw4644574342012704655:=Nat
def tw4647474105317286914:=Nat
def tw4686936876325000815:=Nat
def tw4690706663074241825:=Nat
def tw4703083126413942431:=Nat
def tw4724738366432390296:=Nat
def tw4770945270817484987:=Nat
def tw4771705331380179927:=Nat
def tw4772365444844888635:=Nat
def tw483623305836872470:=Nat
def tw4844522379840143152:=Nat
def tw4845992886843092643:=Nat
def tw4856726169917617242:=Nat
def tw4941179573059629831:=Nat
def tw4994156828000145245:=Nat
def tw5021159341502182505:=Nat
def tw5034596130009716459:=Nat
def tw5061335928252748438:=Nat
def tw5075904444905022149:=Nat
def tw5083762395874956485:=Nat
def tw508946934771506659:=Nat
def tw5102749307170705379:=Nat
def tw5104227728395711794:=Nat
def tw5110034341009117999:=Nat
def tw5125612453738583285:=Nat
def tw5127992424349488640:=Nat
def tw512915931892477798:=Nat
def tw5134759747266736421:=Nat
def tw516285665383948724:=Nat
def tw516459127421666777:=Nat
def tw5177606583998438929:=Nat
def tw519777768314049409:=Nat
def tw5220258274483808855:=Nat
def tw5232746867898515832:=Nat
def tw5255250177112071460:=Nat
def tw5261039353091854873:=Nat
def tw5284524425346711721:=Nat
def tw5309216385890196829:=Nat
def tw5345466308699539657:=Nat
def tw5373512371449403278:=Nat
def tw5425112403692650312:=Nat
def tw543117262849043607:=Nat
def tw5433988978075426213:=Nat
def tw5529072951412028601:=Nat
def tw5535453158809282031:=Nat
def tw5570638069417164443:=Nat
def tw5587138814102906318:=Nat
def tw5666679019804600601:=Nat
def tw5696929322294362823:=Nat
def tw5725745653618968430:=Nat
def tw5728282936527973904:=Nat
def tw5778885256109117273:=Nat
def tw5792961836267041666:=Nat
def tw5796531294419197266:=Nat
def tw5807086563917822009:=Nat
def tw5848157136071801944:=Nat
def tw5851476650430449425:=Nat
def tw5930928084305784778:=Nat
def tw5966241317455580065:=Nat
def tw5966821697642265322:=Nat
def tw5974779449901450933:=Nat
def tw598943716890851004:=Nat
def tw6052104959466035970:=Nat
def tw6067509391170371810:=Nat
def tw6071753939040082240:=Nat
def tw6086040213331694420:=Nat
def tw6091761556422023801:=Nat
def tw615117912572597654:=Nat
def tw6154990144189284045:=Nat
def tw6215339413341550137:=Nat
def tw6232520848155244493:=Nat
def tw6237692679500358670:=Nat
def tw625673698820961534:=Nat
def tw6291477933882655596:=Nat
def tw6332833714240680467:=Nat
def tw6347400457013313245:=Nat
def tw6349793782091360173:=Nat
def tw6370254679670884181:=Nat
def tw6379892032189065356:=Nat
def tw6441757517628013130:=Nat
def tw6511697047033555985:=Nat
def tw652587314131721340:=Nat
def tw6537314568495852623:=Nat
def tw6545376604126115873:=Nat
def tw6556023329225055576:=Nat
def tw6616420327843047549:=Nat
def tw6638456795542974109:=Nat
def tw6648832203541589364:=Nat
def tw6655105445429243539:=Nat
def tw6664658313098801630:=Nat
def tw6709578818844051540:=Nat
def tw6749731436282834135:=Nat
def tw6753444208418629507:=Nat
def tw6756580062165180785:=Nat
def tw6809923157600598175:=Nat
def tw6855829345631005815:=Nat
def tw6886754264250868464:=Nat
def tw6908578314027350325:=Nat
def tw6936234086474674313:=Nat
def tw6943168711526508307:=Nat
def tw6987693603028903835:=Nat
def tw7024983271383376862:=Nat
def tw7034392491814628289:=Nat
def tw7127057379301505896:=Nat
def tw7136450018503214753:=Nat
def tw716519627679674622:=Nat
def tw7167921327066588941:=Nat
def tw7177126179574509851:=Nat
def tw7193735793317129519:=Nat
def tw7217787130911133228:=Nat
def tw7227736591670042444:=Nat
def tw7341693313244138361:=Nat
def tw7373129081406592705:=Nat
def tw7394944085219679118:=Nat
def tw7452748994744040713:=Nat
def tw7488912351809228801:=Nat
def tw752437325914164048:=Nat
def tw7551946984746225736:=Nat
def tw7601522176031889788:=Nat
def tw7636495397946253166:=Nat
def tw7661266327600273744:=Nat
def tw7663239767204321901:=Nat
def tw7703621455093833107:=Nat
def tw7707050656182708342:=Nat
def tw7714124478507263117:=Nat
def tw7731399557259577132:=Nat
def tw782621422776746167:=Nat
def tw7842155568617936965:=Nat
def tw7899380355779753105:=Nat
def tw7901676450566830368:=Nat
def tw7911830398736246179:=Nat
def tw7917243276602100391:=Nat
def tw794669822221202969:=Nat
def tw794866480564368941:=Nat
def tw8078869176703749789:=Nat
def tw8106830627608414787:=Nat
def tw8119139282907298486:=Nat
def tw8167355129678911847:=Nat
def tw8204334425807359807:=Nat
def tw8210322332874148684:=Nat
def tw8293563499674892844:=Nat
def tw831617940740559113:=Nat
def tw8346930919353055881:=Nat
def tw8356856727953953468:=Nat
def tw83588711090620078:=Nat
def tw8369145133152255039:=Nat
def tw8382488884109978106:=Nat
def tw8411418954948153980:=Nat
def tw8462093265062818858:=Nat
def tw8510973876953195476:=Nat
def tw8512242344389990078:=Nat
def tw8535328051838080090:=Nat
def tw8556598017875939299:=Nat
def tw8568829800257679826:=Nat
def tw8578977566637950878:=Nat
def tw8579877909236855806:=Nat
def tw8626085201716351218:=Nat
def tw8677850925825912275:=Nat
def tw8727331260100837826:=Nat
def tw8778404989963498382:=Nat
def tw8801819661956239773:=Nat
def tw8828898314143780575:=Nat
def tw8851907800048284475:=Nat
def tw8895509019794199378:=Nat
def tw8914758653389745991:=Nat
def tw8924680844513525960:=Nat
def tw893934820116277787:=Nat
def tw8966217292662973402:=Nat
def tw897099295108162937:=Nat
def tw9024897867182974120:=Nat
def tw9045780003587678203:=Nat
def tw9047943295942423924:=Nat
def tw90514443300799528:=Nat
def tw9057429747173162885:=Nat
def tw9078135638429933324:=Nat
def tw9113579009163953565:=Nat
def tw9147701586234616618:=Nat
def tw9159973557594359296:=Nat
def tw9179354890958459821:=Nat
def tw9201047042452335612:=Nat
def tw920329450489468674:=Nat
def tw9235649536708287450:=Nat
def tw9309532515526960488:=Nat
def tw9329651615077323523:=Nat
def tw9445494990904908836:=Nat
def tw9452224912743264679:=Nat
def tw9452708119836844800:=Nat
def tw9470493885860874440:=Nat
def tw9492474830033952773:=Nat
def tw9499775347001895509:=Nat
def tw9521304234653256911:=Nat
def tw953587713289998742:=Nat
def tw9554293073462552507:=Nat
def tw9617747440061457075:=Nat
def tw9630040424865608640:=Nat
def tw96411442338932498:=Nat
def tw9648324457889202719:=Nat
def tw9665051081288938216:=Nat
def tw9682008720088349326:=Nat
def tw9706481851051000698:=Nat
def tw9712732941927949541:=Nat
def tw9736366739689922021:=Nat
def tw9736463076353642753:=Nat
def tw9778593028234150944:=Nat
def tw9779847071908926267:=Nat
def tw9794997590744385806:=Nat
def tw9802001948993207950:=Nat
def tw9804295807069209235:=Nat
def tw9810430684182701781:=Nat
def tw9812535868595922261:=Nat
def tw9830366980773385491:=Nat
def tw9835701027400992811:=Nat
def tw9849192697697351470:=Nat
def tw9863962898511554086:=Nat
def tw9880152953286913638:=Nat
def tw9889789192577823111:=Nat
def tw9907809970958615990:=Nat
def tw9910702604972413829:=Nat
def tw9944830486707315874:=Nat
def tw9982201285281980880:=Nat
def tw9995668983356239747:=Nat
end Lite.hd
namespace Lite
open _root_.PySem _root_.PySem.W _root_.PyProof.Rows _root_.PySem.Calls
open _root_.Bool renaming noConfusion->aaa,and_eq_true_iff->aab,false_eq_true->aaK,false_ne_true->abe,or_eq_true_iff->abq,and_eq_true->abD,or_eq_false_iff->afi,not_true->afA,and_false->agC,or_true->ahj,false_and->aiR,or_self->ajD
open _root_.List renaming mem_append_right->aac,length_map->aad,append_assoc->aaf,length_append->aag,getElem?_eq_some_iff->aan,mem_append_left->aao,length_range->aap,map_append->aaq,append_nil->aar,forall_mem_cons->aas,getD_eq_getElem?_getD->aat,mem_map->aau,mem_append->aav,range->aaw,lookup_cons->aay,getElem?_eq_getElem->aaz,size_toArray->aaE,sublist_append_right->aaG,map_cons->aaH,nodup_cons->aaI,mem_singleton->aaP,replicate->aaT,all_eq_true->aaV,nodup_append->aaW,forall_mem_append->abd,length_cons->abi,getElem_range->abl,mem_range->abm,mem_map_of_mem->abp,map_eq_nil_iff->abr,getElem?_map->abu,mem_of_find?_eq_some->abv,mem_of_getElem?->abw,getElem_cons_drop->abx,drop_eq_nil_of_le->aby,nodup_nil->abC,find?_append->abF,getElem?_of_mem->abG,filter_append->abH,map_congr_left->abJ,flatMap_append->abK,map_map->abP,cons->abU,drop_eq_nil_iff->abW,take_of_length_le->aca,filterMap_cons_some->ach,length_drop->acj,flatMap_cons->acn,sublist_cons_self->acq,perm_middle->acy,mem_cons->acB,getElem?_toArray->acC,length_replicate->acE,find?_cons->acN,foldl_append->acO,cons_append->acV,filter_eq_nil_iff->acW,find?_eq_none->acX,contains_iff_mem->acZ,getElem?_eq_none_iff->adi,prefix_rfl->adt,length_set->adu,contains_cons->adv,forIn_cons->adw,find?_some->adx,append_of_mem->ady,range_succ->adz,perm_append_comm->adJ,filter_cons->adN,getElem_map->adO,getElem_toArray->adP,getElem?_set_ne->adR,forIn_nil->aeo,length->aey,range_succ_eq_map->aeH,mem_filter->aeQ,of_mem_zip->aeS,length_filter_le->aeT,filterMap_append->aeU,mem_of_mem_drop->afg,mem_of_mem_take->afh,mapM_cons->afl,filterMap_cons->afn,eraseDups_cons->afo,findIdx?_eq_some_iff_getElem->afx,zip_cons_cons->afy,drop->afz,eraseIdx_append_of_length_le->afB,any_eq_false->afI,eq_nil_iff_forall_not_mem->afV,ext_getElem->afZ,getElem_mem->aga,flatMap_nil->age,length_take->agf,getElem?_append_left->agD,findIdx?_eq_none_iff->agE,length_erase_of_mem->agH,all_cons->agJ,any_cons->agL,lookup_eq_none_iff->agN,map_take->agO,take_append_drop->ahl,replicate_succ->ahw,forall_mem_map->ahz,filter->ahB,length_take_le->ahF,filterMap_some->ahG,prefix_append->ahO,findIdx?_cons->ahP,zip_nil_right->ahT,filterMap_map->ahX,cons_eq_cons->ain,foldl->aio,getElem?_inj->aip,take_add_one->ait,isEmpty_iff->aiy,any_eq_true->aiB,take->aiL,length_nil->aiN,filter_nil->aiO,filterMap->aiX,take_nil->ajn,drop_nil->ajo,map_drop->ajq,all_map->ajy,map_nil->ajE,map_set->ajG
open _root_.Option renaming some->aae,bind_eq_some_iff->aaj,map_eq_some_iff->aaR,isNone_iff_eq_none->acb,isSome_iff_exists->adj,any_eq_true->ado,casesOn->ags,bind->ahi,or_none->aiA,none->ajm
open _root_.Nat renaming le_trans->aah,ble_eq_true_of_le->aaJ,le_refl->aaZ,lt_of_le_of_lt->aba,zero_le->abh,succ_le_succ->abE,le_of_ble_eq_true->abR,lt_of_lt_of_le->abV,ne_of_lt->abY,min_eq_left->acp,succ->acu,le_of_not_le->acF,noConfusion->acP,le_of_lt->acR,ble->acT,le_succ_of_le->ade,add_le_add_right->adg,le_succ->adE,succ_pos->adL,min_eq_right->adQ,add_le_add_left->aec,not_lt_zero->aed,lt_or_ge->aep,le_of_succ_le->aev,le_of_lt_succ->aew,lt_irrefl->aeC,le_add_right->aeI,zero_add->agc,le_antisymm->agw,succ_add_eq_add_succ->agK,mul_div_cancel_left->agR,le_mul_of_pos_right->agS,add_sub_cancel_left->agT,pow_le_pow_right->ahE,log2_lt->ahQ,mul_le_mul_left->ahR,add_sub_cancel'->ahW,lt_of_le_of_ne->air,not_lt->aiz,lt_succ_of_le->aiD,lt_succ_self->aiM,le_add_left->ajb,sub_self->ajZ,le_of_eq->akf,lt_trans->akg
open _root_.PySem renaming wpAny_pure->aai,call->aal,wpAny_bind->aam,NameKind->aax,builtinLookup_eq_fast->aaA,wpAny_of_eq->aaB,Shared->aaC,Builtin->aaD,wpAny_specialOf->aaN,typeLookup_type->aaQ,Around->aaY,holding->abb,bm_if_false->abn,isSubtype_type->abM,checkBuiltinCall->abS,wpAny_holding->abT,Operator->abZ,holding->ace,strLen_append->aci,typeLookup->ack,standAt->acr,bindName->acs,sysModules->acw,wpAny_field->acz,letOwnedTupleGo->acA,Program->acI,wpAny_isInstance->acJ,wpAny_rule->acK,assign->acL,swappedStores->acM,mainGlobals->acQ,wpAny_newObj_type->acU,theTreesLotGoes->adh,assignInOrder->adk,codeAny_call_builtin->adm,recursionLimit->adq,rawInt->adF,wpAny_callSpecial?_slot->adG,noteFrame->adH,assignEach->adT,entryFor->adU,sizeLine->adV,callSpecial?->adY,DictEntry->adZ,entryFor_of_tree->aef,spliced->aeg,wpAny_release->aek,starEach->ael,wpAny_load->aeq,Fin->aer,arm_eval_Call_Name'->aet,Result->aez,argsOk->aeA,FuncData->aeB,bm_if_true->aeJ,isInstance->aeK,wpAny_call->aeL,getMethod_builtin->aeM,foldedSetIterable->aeN,cellsFrom->aeO,swapsWith->aeP,plainId_quiet->aeX,wpAny_attempt->afa,wpAny_unpackItems_tuple->afb,comprehension->afc,unpackItems->afd,swapsWithSole->afe,excClassObj->aff,wpAny_call_entry->afj,compareOp->afq,codeAny_builtin->afr,setFlight->afs,dropValue->afu,ClassData->afv,builtinsNs->afC,headPart->afD,arm_assign_Attribute->afH,constantsAlone->afK,wpAny_seqItems->afL,wpAny_setField->afM,methodCallForm->afN,arm_execs_cons->afO,Keyword->afW,evalThenUse->afX,wpAny_standAt->agj,ExceptHandler->agk,binaryOp->agl,runOwn->agm,methodCallPos->agn,pyIter->ago,compEnvC->agp,FuncBody->agq,wpAny_truthy_bool->agz,wpAny_mono->agB,wpAny_lookBehind->agI,evalEach->agP,BoolOp->agU,isTrue->agV,truthy->agW,getItem->agY,newFields->agZ,isSubtype->aha,specialOf->ahb,typeOf->ahc,seqItems?->ahd,arm_exec_Assign->ahe,sizeLine_eq->ahh,wpAt_of_wpAny->aho,markedBehindIn->ahs,newFunctionEnv->aht,wpAny_loadPart->ahu,raisedInstance->ahv,backTo->ahK,markedEach->ahL,pyNext->ahM,isExcClass->ahN,Expr->ahV,checkTypeCall->ahY,Comprehension->ahZ,intKind->aia,valueAt->aib,operate->aic,setItem->aid,behindInMarks->aif,newList->aih,attributeBase->aii,callWith->aij,arm_eval_Call->aik,arm_exec_Expr->ail,wpAt_bind->aiC,getMethod->aiE,call_meetsIn->aiF,excFromValue->aiI,bootBuiltins->aiJ,arm_assign_Subscript->aiP,release->aiT,codeAny->ajc,unsupported->ajd,callAny->aje,setAttr->ajf,subscripted->ajg,wpAny_mkInt->ajh,valueOrNone->aji,wpAny_isSubtype_exc->ajj,classAt->ajk,arm_eval_Subscript->ajt,wpAny_Constant_str->ajv,TypeCalled->ajH,wpAny_Name->ajI,typeIs_int->ajJ,slot_list_getitem->ajK,wpAny_sequenceKey->ajL,fastTable_eq_tree->ajM,callMarked->ajO,methodCall->ajP,closureFor->ajQ,excMatches->ajR,wpAny_loadPart_at->ajS,wpAny_askSetting->akk,wpAny_comp_letGo->akl,wpAny_madeBy_exc->akm,pastItsLine_dict->akn
open _root_.Pure renaming pure->aak
open _root_.PySem.Heap renaming get?_push_of_some->aaF,get?_push_size->aaX,lt_size->abN,get?_update_self->abO,SameBut->acD,get?_update_other->adB,size_push->aiY,ExtBut->ake
open _root_.Int renaming natCast_nonneg->aaL,eq_ofNat_of_zero_le->abf,ofNat_le->abg,toNat_natCast->abk,not_lt->abI,le_trans->abX,le_of_lt->acg,ofNat_lt->acG,le_refl->acS,not_le->adf,add_zero->adn,fmod_nonneg_of_pos->adD,ne_of_gt->adK,lt_of_le_of_lt->aem,add_assoc->aeF,zero_add->aeV,lt_trans->aeW,toNat_of_nonneg->afp,add_sub_cancel->afE,lt_of_lt_of_le->afF,fmod_lt_of_pos->afG,toNat_le->agd,min_eq_left->agv,natCast_add->agx,ofNat->agy,add_nonneg->agG,toNat_sub->agQ,add_comm->ahn,sub_zero->ahr,add_le_add_right->ahx,le_of_lt_add_one->ahD,lt_add_one_of_le->ahH,sub_add_cancel->aiu,min_eq_right->aiK,toNat->aiS,ediv_nonneg->aiV,fdiv_nonneg->aja,add_le_add->ajr,toNat_lt->ajV,le_of_eq->ajX,ediv_one->akj
open _root_.List.Sublist renaming refl->aaM,append->abj,nodup->akh,map->aki
open _root_.PySem.Expr renaming casesOn->aaO,Name->agr
open _root_.List.Perm renaming swap->aaS,cons->aaU,append_left->adA,refl->ahA
open _root_.PySem.NameKind renaming noConfusion->abc,free->abB,cell->aen
open _root_.PySem.Value renaming none->abo,noConfusion->abL,casesOn->adS,ref->adW,isInt->ajz
open _root_.PySem.Stmt renaming Pass->abt,casesOn->afP
open _root_.PySem.Builtin.Range renaming rangeSize->abz,rangeFitsLong->adC,small->agi
open _root_.PySem.Builtin.Bytes renaming decodersThatHold->abA,exported->afJ,buffer?->afR,sameRef->ajw
open _root_.ForInStep renaming yield->abQ
open _root_.PySem.Challenge renaming rw_nz0219_03->acd,pw_nz0219_03->aiZ
open _root_.PyProof.Rows renaming step_dedup->acf,subscriptTail->aeZ,IntsAre->agX,isnot_none_ne->aie,is_none_ne->ajN,getItem_tuple->ajW,lt_int->aka,le_int->akb,gt_int->akc,ge_int->akd
open _root_.Ne renaming symm->acm
open _root_.PySem.MeetsSeq renaming plain_remove_loop->aco,entry_remove_loop->aeE
open _root_.PySem.W renaming typeIs_bytes->acv,emptyDict->ads,looks_findIn->aea,kms_lo->aeb,findIn->aes,looks_subIn->aeu,hideAll->aeG,kms_hi->aeR,instObj->aeY,takerIn->agA,keepIn->ahf,looks_clsIn->ahg,check_slot->ahJ,findCls->aim,hideAll_none->aiG,specialIn->aiH,plainGet->ajs,typeIn->aju
open _root_.PySem.Builtin renaming bitAnd->acx,bitNot->aee,bitOr->afk
open _root_.PySem.Heap.SameBut renaming update->acH
open _root_.PySem.Flow renaming next->acY
open _root_.PySem.Str renaming ofString->ada
open _root_.PySem.Around renaming under_plainId->adb
open _root_.PySem.Data renaming casesOn->adl,noConfusion->agb
open _root_.PySem.W.Looks renaming of_pure->adp,ld->aeh
open _root_.PySem.Code renaming builtin->adI,quiet_builtin->afw
open _root_.PySem.W.FB renaming slot_bytes_getitem->adM
open _root_.PySem.F renaming excBase_ValueError->adX,store_ValueError->aej,slot_list_remove->afT,slot_dict_delitem->agg,slot_dict_get->agF,args_object_init_2->aiq,bm_called->aiv,plainAttrs_list->aiU,entry_dict_get->ajp,slot_int_rmul->ajx,bm_bind->ajA
open _root_.Prod renaming fst->aei,snd->ahS
open _root_.PySem.Heap.IsSliceOf renaming new->aex
open _root_.PySem.Builtin.Int renaming intBits->aeD
open _root_.PySem.ExcName renaming means->afm
open _root_.PySem.SeqAt.EqAt renaming of_refs->afQ
open _root_.PySem.Builtin.List renaming listItems->afS,listFitsIndex->ajT,listTooLong->ajU,listUpdate->ajY
open _root_.PySem.W.WData renaming layableAll->afU
open _root_.PySem.Sem renaming wp_bind'->afY,wp_mono->agu,wp_stack->ahq,wp_pure->ahU,wp_holding->ajl
open _root_.PySem.Obj renaming mapBytearray->agh,mapSeq->agM,data_mapFields->ais,mapFields->ajC
open _root_.Array renaming getElem?_eq_some_iff->agt,replicate->aiw
open _root_.PySem.Within renaming cons->ahk
open _root_.PySem.Operator renaming casesOn->ahm
open _root_.PySem.FuncBody renaming casesOn->ahp
open _root_.String renaming splitOnAux->ahy,splitOn->aix
open _root_.PySem.Fin renaming done->ahC
open _root_.PySem.SeqAt renaming RcNeAt->ahI
open _root_.PySem.CmpOp renaming casesOn->aiQ
open _root_.And renaming intro->aiW
open _root_.PySem.IsiPair renaming int_int->ajB
open _root_.List.Pairwise renaming imp_of_mem->ajF
theorem RN:oa P0 36:=⟨fS (mS 2 0),by kernel_rfl,⟨_,_,_,_,_,_,_,_,_,_,rfl,by kernel_rfl⟩,by kernel_rfl,by kernel_rfl⟩
theorem RP:∃ f,cB (P0.fn 92=some f) (mu f.body) (f.params=[("self":Str),("writes":Str)]) (f.scope.names=iW):=⟨fS (mS 6 0),by kernel_rfl,⟨_,_,_,_,_,_,_,_,_,_,_,_,_,_,rfl,by kernel_rfl⟩,by kernel_rfl,by kernel_rfl⟩
theorem RQ(w:World)(h:Heap)(cl:Str->Option Addr)(args:List WData)(vals:List Value)(as:List Addr)(hpre:acd.row.toRowW.claim.pre args=true)(hlay:afU args=true)
  (hrd:ReadsAllW acd.row.toRowW.records cl h vals args as) (hwl:WellAll w.params h vals args) (hlo:∀ a∈as,(a==acw)=false):
  ∃ l vs xs,vals=[.ref l]∧h.IsList l vs.toArray∧agX vs xs∧xs.length<=63:=by
 wrow_args hpre hlay hrd hwl hlo
 exact⟨_,_,_,rfl,by assumption,by assumption,by omega⟩
theorem RR(args:List WData):acd.row.toRowW.claim.post args (.bool true) args=true:=by
 wrow_post
abbrev RS:V->Hp->Prop:=λv _=>v=.bool true
theorem RU(xs:List Int)(h:xs.length<=63):∃ H,run P0 40 (.ah 608) [.ints xs] []=.ok (.bool true) H:=by
 have c:Cq (run P0 40 (.ah 608) [.ints xs] []) RS nx:=RM (n:=30) (aah h (abR rfl)) (λ_=>rfl)
 cases e:run P0 40 (.ah 608) [.ints xs] []with
 |no=>rw[e]at c;exact c.elim
 |exc a H=>rw[e]at c;exact c.elim
 |ok v H=>rw[e]at c;exact⟨H,congrArg (λv=>CR.ok v H) c⟩
set_option Elab.async true
set_option maxHeartbeats 8000000 in
theorem hd:acd.Holds:=by
 w_on;o_law;k_head;(case hw=>w_witness2)
 refine(IB (P:=P0) (fns:=xE) (fI:=36) (fC:=92) (B:=39) (law:=608) (n:=39) (f:=fS (tS 31)) (λp=>⟨by kernel_rfl,by kernel_rfl,by kernel_rfl,by kernel_rfl,by kernel_rfl,by kernel_rfl,by kernel_rfl,rfl,by kernel_rfl,by kernel_rfl,by kernel_rfl,RN,by kernel_rfl,by kernel_rfl,by kernel_rfl,RP,by kernel_rfl,by kernel_rfl⟩) ?_ (λp=>?_) ?_ (by decide) (by decide) RQ RU RR λa x=>?_)
 ·kernel_rfl
 ·kernel_rfl
 ·kernel_rfl
 ·rfl
end Lite
theorem PySem.Challenge.cw_nz0219_03_holds : PySem.Challenge.rw_nz0219_03.Holds :=
 Lite.hd
