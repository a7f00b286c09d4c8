import PyProof.Rows.All
import Wide.All
import OpenK.AllK
import Wide.FinOn
import Lean
import PySem.Challenge.RW_xw0068_01
set_option Elab.async false
set_option genSizeOf false
set_option genInjectivity false
set_option genCtorIdx false
set_option compiler.extract_closed false
set_option bootstrap.genMatcherCode false
set_option tactic.hygienic false
set_option linter.unusedVariables false
set_option maxRecDepth 100000
namespace Mine
open Array renaming length_toList->bH,getElem?_toList->eS,getElem?_eq_getElem->fA,toArray_toList->iG,toList_push->lW,getElem?_eq_none->nJ,toList_append->vL,toList_eq_nil_iff->zW,forIn_toList->Hn,isEmpty_iff->Jl,toList_inj->Lj
open Bool renaming and_eq_true_iff->aM,false_ne_true->cP,or_eq_true_iff->gY,and_true->hV,eq_iff_iff->iX,and_eq_true->kY,and_false->mS,not_eq_true'->oI,eq_false_iff->oJ,or_eq_false_iff->uE,or_true->vT,not_not->vU,not_eq_false'->wV,false_bne->wW,and_assoc->Ea,true_and->Gu,or_false->Gv,false_eq_true->Hm,or_eq_true->Od,false_and->Qa,bne_false->Qb
open Decidable renaming byContradiction->pV
open Eq renaming symm->Jj,refl->Jk
open Exists renaming elim->aU
open ForInStep renaming yield->hW
open Iff renaming rfl->Bi,trans->Uq
open Int renaming le_trans->aD,le_refl->aW,add_le_add_right->bQ,add_zero->cA,lt_or_eq_of_le->cG,le_max_left->cH,le_of_lt_add_one->cM,ofNat_le->cZ,le_of_lt->dA,not_lt->dD,le_max_right->dJ,natCast_nonneg->dL,le_antisymm->dU,mul_le_mul_of_nonneg_left->dW,le_add_of_nonneg_right->eM,zero_add->fD,lt_of_lt_of_le->fH,ofNat_lt->fL,add_le_add_left->fM,toNat_natCast->fS,add_assoc->fT,sub_nonpos_of_le->fV,max_eq_right->gC,add_comm->gL,max_le->gO,le_of_sub_nonpos->gP,not_le->iA,one_mul->iE,lt_add_one_of_le->iF,toNat_of_nonneg->iS,sub_eq_zero->iV,min_eq_left->iW,min_eq_right->jG,lt_of_le_of_lt->jH,neg_le_neg->jT,add_le_add->jU,le_add_of_nonneg_left->lL,min_le_left->lP,max_eq_left->lQ,le_total->lV,natAbs_neg->mQ,eq_ofNat_of_zero_le->mR,lt_succ->mZ,sub_eq_add_neg->nH,ne_of_lt->nI,fdiv_eq_ediv_of_nonneg->oY,eq_zero_of_dvd_of_natAbs_lt_natAbs->oZ,le_of_eq->pP,add_left_cancel->pZ,lt_or_gt_of_ne->qQ,dvd_of_fmod_eq_zero->rA,neg_nonneg->rU,natAbs_pos->rV,mul_zero->rW,add_sub_assoc->rX,mul_le_mul_of_nonneg_right->tA,min_le_right->tB,sub_le_sub_right->tW,nonpos_of_mul_nonneg_left->tX,nonneg_of_mul_nonneg_left->tY,neg_le_of_neg_le->tZ,mul_le_mul_of_nonpos_left->uA,mul_add->uB,le_sub_one_of_lt->uC,le_of_sub_nonneg->uD,tmod_nonneg->uV,natCast_add->uW,natAbs_tmod->uX,add_pos_of_pos_of_nonneg->uY,add_pos_of_nonneg_of_pos->uZ,toNat_lt->vR,add_le_zero_iff_le_neg'->vS,natAbs_eq_zero->wR,le_of_add_le_add_right->wS,le_min->wT,add_nonneg->wU,neg_eq_of_add_eq_zero->xX,eq_of_mul_eq_mul_left->xY,neg_add->yG,mul_one->yH,add_left_comm->yI,nonpos_of_neg_nonneg->zA,lt_irrefl->zB,le_natAbs->zC,zero_sub->Bf,tmod_def->Bg,lt_trans->Bh,neg_one_mul->Cj,natAbs_tdiv->Ck,sub_one_lt_of_le->Du,sub_nonneg_of_le->Dv,sub_neg->Dw,neg_mul->Dx,natAbs_of_nonneg->Dy,mul_nonneg->Dz,add_lt_add_left->Gh,mul_assoc->Gs,sub_add_cancel->Hk,add_right_comm->Hl,zero_mul->Je,sub_pos_of_lt->Jf,natAbs_add_le->Jg,lt_trichotomy->Jh,add_right_neg->Ji,neg_sub->Na,neg_neg->Nb,natCast_pos->Ob,natCast_mul->Oc
open Int.ofNat renaming inj->yZ
open List renaming mem_singleton->aC,length_map->aI,mem_cons->aJ,mem_append_left->aL,length_append->aN,mem_append_right->aQ,mem_map->aT,mem_append->aV,nodup_append->bB,not_mem_nil->bN,append_assoc->bU,nodup_cons->bV,getElem?_eq_getElem->bZ,getD_eq_getElem?_getD->cD,mem_cons_self->cF,isEmpty_iff->cJ,append_nil->cN,map_append->cS,mem_cons_of_mem->cX,all_eq_true->dH,map_map->dM,rec->dR,map_cons->dX,mem_filter->eA,find?_cons->eB,pairwise_singleton->fP,range->gH,length_filter_le->iZ,contains_iff_mem->jA,eq_nil_of_length_eq_zero->jS,forIn_cons->kE,take_of_length_le->kO,filter_cons->kX,pairwise_cons->lE,exists_cons_of_ne_nil->lF,getElem?_eq_some_iff->lK,length_nil->lO,pairwise_map->lT,getElem?_map->lU,any_eq_true->mP,size_toArray->oG,length_range->oH,mem_range->oV,length->oW,lookup_cons->pO,mem_of_find?_eq_some->pT,getElem?_append_left->pU,take_add_one->rT,getElem?_toArray->sQ,mem_flatMap->sW,map_fst_zip->sX,length_drop->sY,map_eq_nil_iff->vI,flatMap_append->vJ,filterMap_cons->vK,getElem?_concat_length->vQ,getElem?_append_right->wP,forIn_nil->wQ,getElem?_zip_eq_some->xW,reverse_cons->yE,any_eq_false->yF,map_reverse->zT,length_take->zU,cons_ne_nil->zV,drop_of_length_le->Be,of_mem_zip->Ch,find?_some->Ci,getElem?_eq_none->Dd,mem_of_mem_take->Dr,mem_of_getElem?->Ds,getElem_range->Hi,filter_append->Hj,take_sublist->Iz,getElem?_nil->Ja,find?_append->Jb,ext_getElem?->Jc,all_map->Jd,zipIdx_cons->Lb,take_length->Lc,map_snd_zip->Ld,length_cons->Le,ext_getElem->Lg,cons_append->Lh,any_toArray->Li,zipIdx_nil->Ny,length_zip->Nz,all_append->Oa,take_left->Pz
open List.Nodup renaming length_le_of_subset->sZ
open List.Perm renaming swap->cY
open List.cons renaming inj->fR
open Nat renaming le_trans->aB,le_of_ble_eq_true->aP,le_add_right->aS,lt_of_le_of_lt->aX,lt_of_lt_of_le->bA,add_le_add_left->bE,le_succ->bJ,succ_le_succ->bK,add_assoc->bL,le_refl->bM,le_of_eq->bT,lt_succ_self->cI,add_le_add_right->cW,add_comm->dQ,zero_add->eH,not_lt->fG,zero_le->fJ,mul_le_mul_left->fK,le_add_left->fN,ne_of_lt->fX,le_succ_of_le->gK,lt_add_of_pos_right->gM,min_le_right->gT,lt_succ_of_lt->gZ,le_of_succ_le_succ->iM,le_of_lt->iN,add_le_add->iO,lt_or_eq_of_le->jF,succ_pos->jN,le_of_lt_succ->jZ,add_right_comm->lD,lt_trans->lS,lt_succ_of_le->oE,lt_irrefl->qG,eq_of_beq_eq_true->sP,not_succ_le_zero->tV,min_eq_left->uT,div_le_self->uU,add_sub_cancel'->vG,add_lt_add_left->vH,ne_of_gt->vO,mul_succ->vP,mod_lt->wO,exists_eq_add_of_le'->yY,succ_ne_self->zR,min_eq_right->zS,sub_le->Bb,lt_of_succ_lt_succ->Bc,beq->Bd,min_le_left->Cg,ble_eq_true_of_le->Dc,sub_le_sub_right->Dq,add_left_cancel->Gg,pos_of_ne_zero->Hf,gcd_zero_right->Hg,add_sub_cancel->Hh,lt_or_ge->Iu,le_total->Iw,gcd->Ix,ble->Iy,mod_eq_of_lt->Kz,le_max_right->La,log2_lt->Mz,not_lt_zero->Nu,mul_add_mod->Nv,le_max_left->Nw,le_antisymm->Nx,mod_le->Py
open Nat.succ renaming inj->rS
open Option renaming map_eq_some_iff->bO,bind_eq_some_iff->bR,isSome_iff_exists->hU,isNone_iff_eq_none->lJ,map->Ba,bind->My,none_or->Px
open Option.some renaming inj->aF
open Prod renaming fst->bY,snd->fU
open Prod.mk renaming inj->cL
open PyProof.Rows renaming IntsAre->lR,wpAny_release'->Do,pairsOf->Dp,markedEach_of_false->Gf,listUpdate_at->Gq,size_push'->He,seqEpoch_at->Mx
open PyProof.Rows.F renaming plain_set_update_loop->kJ,entry_set_update_loop->pY
open PyProof.Rows.IsTup renaming typeIs->Ir
open PySem renaming wpAny_bind->aA,PyData->aE,Value->aG,wpAny_pure->aH,Shared->aK,wpAny->aO,wpAny_holding->bX,Around->dT,wpAny_standAt->eD,mem_of_lookup->eY,wpAny_call_entry->fO,Scope->gF,wpAny_mono->gN,wpAny_newObj_type->iL,callWith_type->iR,wpAny_specialOf->iT,wpAny_field->iU,wpAny_seqItems->jR,wpAny_callSpecial?_slot->jY,codeAny_builtin->kD,DictEntry->lN,wpAny_isInstance->mN,wpAny_askSetting->mO,wpAny_setField_rec->nD,wpAny_rule->nE,wpAny_callSpecialIfBoundUnlessNone?_slot->nV,wpAny_setState_of->nZ,intKind_is->qO,wpAny_of_eq->qY,wpAny_typeOf->rJ,wpAny_setField->rK,wpAny_pyIter_list->rN,NameKind->rP,wpAny_newList->tM,plainId_quiet->tN,Program->tO,callSpecialIfBoundUnlessNone?->tU,wpAny_ite_split->uM,arm_eval_Call_Name'->vF,wpAny_pyIter_tuple->wG,wpAny_newTuple->wH,Result->wJ,FuncData->wL,wpAny_point->yA,slot_dict_getitem->yB,wpAny_comprehension_free->yS,beq_builtin_none->zK,meets_dict_get_default->Av,IsPair->Ax,arm_exec_Assign->Ce,wpAny_storeName_local->Cw,wpAny_notOrdered_dict->Cy,builtinLookup_eq_fast->Cz,wpAny_loadName_local->Dh,arm_assign_Attribute->Di,wpAt_of_wpAny->Gl,wpAny_onRaise->Gm,wpAny_attempt->Gn,setItem->Go,wpAny_call->Hb,strKind_is->Hc,codeAny_mono->Il,call_meetsIn->Im,World->Mu,ItemsOf->Oq,CmpOp->Pv,Walks->Un,IsZip->Up
open PySem.Around renaming under_plainId->iD
open PySem.AutoSeq1 renaming wpAny_loadPart'->qF
open PySem.Builtin renaming «dict.update.loop»->oU,«set_iterator.__next__»->sL,«frozenset.__iter__»->uR,«dict.setdefault»->xT,«set.__init__»->Az,«list.sort»->Ge
open PySem.Builtin.Dict renaming updateFrom->zQ
open PySem.Builtin.Frozenset renaming updateFrom->uS,newClass->wN,isAnySet->Pw
open PySem.Builtin.List renaming listTooLong->yX
open PySem.Builtin.Range renaming rangePlace?->xU,rangeFields->xV
open PySem.Builtin.SmallTypes renaming nextOf->fW,ownedTupleIsFree->hN,ownedTupleHandOut->pX
open PySem.Builtin.Tuple renaming tupleHashOf->pS,tupleExact->yW
open PySem.Calls renaming callWith_builtin->nG,evalArgs_plain->oR,spliced_cons->rR,callWith_function->zP,spliced_nil->Dm
open PySem.F renaming called_set->hZ,slot_tuple_getattribute->mK,plainAttrs_list->qZ,slot_tuple_hash->rQ,slot_range_contains->sN,slot_dict_get->sO,slot_bool_hash->sV,slot_zip_next->uP,slot_dict_setdefault->uQ,slot_tuple_iterator_next->wM,slot_list_extend->yU,slot_list_append->yV,plain_list_iadd->zM,plainAttrs_dict->zN,args_dict_get_3->zO,entry_dict_get->Ay,slot_set_iter->Da,plain_set_new->Db,args_zip_next_1->Iq
open PySem.Flow renaming next->Ky
open PySem.Heap renaming get?_push_size->bC,get?_push_of_some->bI,size_push->cO,lt_size->dG,SameBut->gJ,get?_update_self->hM,size_update->pN,get?_update_ne->Gc,ExtBut->Mw
open PySem.Heap.DictOf renaming typeIs->qP,new->Cf
open PySem.Heap.IsList renaming typeIs->wK
open PySem.Heap.IsSliceOf renaming new->Hd
open PySem.Heap.MapOf renaming typeIs->Ip
open PySem.Heap.SameBut renaming update->gX
open PySem.IsRange renaming new->Zm
open PySem.NameKind renaming free->mG,cell->qE
open PySem.Obj renaming data_mapFields->lC,mapSeq->mF,isFreed_of_fields->sM,cls_mapFields->yD,data_mapDictKeys->Dl
open PySem.PyData renaming eqv->dC,keyHash->lB,int->mE,strOk->nF,eqvAll->qD,tuple->rO,depthAll->uO,list->Dk,str->Pt
open PySem.PyData.int renaming inj->Pu
open PySem.SetTable renaming insertAt->oA,runEnd->uN,below->wI,freeSlot->yC
open PySem.SetTable.probe renaming go->Io
open PySem.Shared renaming TypeIs->qC,heap->Dj
open PySem.Str renaming ofString->aZ,empty->Uo
open PySem.Value renaming none->jD,int->jE,ref->pM,builtin->yT,str->zL,bool->Aw,type->Ps
open PySem.Value.ref renaming inj->Gp
open PySem.W renaming plainGet_of->Mv
open PySem.Walks renaming list->Pp
open PySem.pickOrder renaming go->Ik
section
open PySem
noncomputable def Nm:Type:=Nat
noncomputable def fC (n:Nat):Nm:=n
noncomputable instance:DecidableEq Nm:=inferInstanceAs (DecidableEq Nat)
noncomputable def dg (k:Nat):Nat->List Nat:=Nat.rec (λY=>[]) (λY ih n=>if n=0 then [] else n%256::ih (n / 256)) k
noncomputable def Nm.str (x:Nm):Str:=⟨(dg x x).toArray⟩
noncomputable def Nm.Bu:Nm:=fC 369955165306041278877517
noncomputable def Nm.xE:Nm:=fC 91570117628500
noncomputable def Nm.Ro:Nm:=fC 75064457450836
noncomputable def Nm.kC:Nm:=fC 6872339552563453791
noncomputable def Nm.mI:Nm:=fC 97
noncomputable def Nm.mW:Nm:=fC 2422434615820753210190134963561057
noncomputable def Nm.PB:Nm:=fC 7105633
noncomputable def Nm.jC:Nm:=fC 112628528344161
noncomputable def Nm.Vg:Nm:=fC 6581857
noncomputable def Nm.Kb:Nm:=fC 112628529196641
noncomputable def Nm.iI:Nm:=fC 110425311047777
noncomputable def Nm.Kw:Nm:=fC 98
noncomputable def Nm.Fp:Nm:=fC 474214786402
noncomputable def Nm.oP:Nm:=fC 7629154
noncomputable def Nm.Rl:Nm:=fC 1937008994
noncomputable def Nm.Xm:Nm:=fC 1752461154
noncomputable def Nm.jB:Nm:=fC 126875187113826
noncomputable def Nm.Br:Nm:=fC 99
noncomputable def Nm.xD:Nm:=fC 1819043171
noncomputable def Nm.rE:Nm:=fC 1889593149961379211363
noncomputable def Nm.Aj:Nm:=fC 111546564963427
noncomputable def Nm.oN:Nm:=fC 495639162723
noncomputable def Nm.xC:Nm:=fC 121424856313699
noncomputable def Nm.yO:Nm:=fC 1889593150004228091747
noncomputable def Nm.tH:Nm:=fC 7234314139264184163
noncomputable def Nm.qT:Nm:=fC 8389750308618530659
noncomputable def Nm.eL:Nm:=fC 8751164170141855587
noncomputable def Nm.Vf:Nm:=fC 100
noncomputable def Nm.xB:Nm:=fC 7760228
noncomputable def Nm.Fo:Nm:=fC 28258979611568484
noncomputable def Nm.iH:Nm:=fC 121398885183332
noncomputable def Nm.jX:Nm:=fC 1889593149978256961380
noncomputable def Nm.Pa:Nm:=fC 495774560100
noncomputable def Nm.Nk:Nm:=fC 6649188
noncomputable def Nm.Oz:Nm:=fC 521510478181
noncomputable def Nm.kA:Nm:=fC 32772479204551781
noncomputable def Nm.pQ:Nm:=fC 483735848088798379732069
noncomputable def Nm.tG:Nm:=fC 1935961701
noncomputable def Nm.Oy:Nm:=fC 465491554661
noncomputable def Nm.uI:Nm:=fC 110425311311973
noncomputable def Nm.Cp:Nm:=fC 102
noncomputable def Nm.xA:Nm:=fC 125823019606374
noncomputable def Nm.Rk:Nm:=fC 111542270388582
noncomputable def Nm.Ka:Nm:=fC 500153084262
noncomputable def Nm.fZ:Nm:=fC 1952541798
noncomputable def Nm.dE:Nm:=fC 431349919590
noncomputable def Nm.Mf:Nm:=fC 31084703086768742
noncomputable def Nm.tQ:Nm:=fC 139505594349162194342474342
noncomputable def Nm.qK:Nm:=fC 7628135
noncomputable def Nm.Eo:Nm:=fC 1818324839
noncomputable def Nm.wZ:Nm:=fC 8391162081246016103
noncomputable def Nm.yN:Nm:=fC 474450195047
noncomputable def Nm.HO:Nm:=fC 7561576
noncomputable def Nm.cT:Nm:=fC 1751607656
noncomputable def Nm.AU:Nm:=fC 7368041
noncomputable def Nm.qN:Nm:=fC 517097156201
noncomputable def Nm.Md:Nm:=fC 32481190093287017
noncomputable def Nm.WP:Nm:=fC 29545
noncomputable def Nm.Ia:Nm:=fC 8746397786915697513
noncomputable def Nm.Fm:Nm:=fC 31636683541672809
noncomputable def Nm.pI:Nm:=fC 7959953386439144297
noncomputable def Nm.rC:Nm:=fC 28539342257353577
noncomputable def Nm.eR:Nm:=fC 131277527151465
noncomputable def Nm.wY:Nm:=fC 7526770011682075497
noncomputable def Nm.kV:Nm:=fC 1851983312465013207913
noncomputable def Nm.Zi:Nm:=fC 107
noncomputable def Nm.mV:Nm:=fC 1953523051
noncomputable def Nm.Jz:Nm:=fC 7955819
noncomputable def Nm.mH:Nm:=fC 1684957547
noncomputable def Nm.Nj:Nm:=fC 7364972
noncomputable def Nm.nY:Nm:=fC 1702125932
noncomputable def Nm.En:Nm:=fC 7823724
noncomputable def Nm.cV:Nm:=fC 8830341693118633202815139408991
noncomputable def Nm.nP:Nm:=fC 121371393604393298739424351
noncomputable def Nm.dB:Nm:=fC 36036139770767209075400862815
noncomputable def Nm.mB:Nm:=fC 526310933123921887718495
noncomputable def Nm.nO:Nm:=fC 1888586030269981617247
noncomputable def Nm.kH:Nm:=fC 2342093876443158113879499665927263
noncomputable def Nm.yM:Nm:=fC 479033076491904402680927
noncomputable def Nm.jJ:Nm:=fC 1870858745032837524575
noncomputable def Nm.qS:Nm:=fC 1870431184543214038111
noncomputable def Nm.pH:Nm:=fC 493274399485596566383711
noncomputable def Nm.Bq:Nm:=fC 500151969132
noncomputable def Nm.Rj:Nm:=fC 1952867692
noncomputable def Nm.AT:Nm:=fC 125762639128940
noncomputable def Nm.mA:Nm:=fC 2091786763212436695404
noncomputable def Nm.kU:Nm:=fC 1870930237486187571564
noncomputable def Nm.rB:Nm:=fC 1871074352674263427436
noncomputable def Nm.dY:Nm:=fC 7827308
noncomputable def Nm.vC:Nm:=fC 1701077357
noncomputable def Nm.jP:Nm:=fC 138296318119088462030463341
noncomputable def Nm.El:Nm:=fC 2037277037
noncomputable def Nm.Ai:Nm:=fC 6582125
noncomputable def Nm.Bp:Nm:=fC 1953722221
noncomputable def Nm.pG:Nm:=fC 1701667182
noncomputable def Nm.tF:Nm:=fC 32195308380710254
noncomputable def Nm.Ek:Nm:=fC 2018725697680058115438
noncomputable def Nm.Hz:Nm:=fC 1702129518
noncomputable def Nm.Xl:Nm:=fC 431198859118
noncomputable def Nm.Ri:Nm:=fC 125779768604014
noncomputable def Nm.lA:Nm:=fC 32495402090329454
noncomputable def Nm.yL:Nm:=fC 474148529775
noncomputable def Nm.sD:Nm:=fC 1701015151
noncomputable def Nm.dP:Nm:=fC 6647407
noncomputable def Nm.AS:Nm:=fC 29295
noncomputable def Nm.dO:Nm:=fC 491327616111
noncomputable def Nm.Mc:Nm:=fC 1953653104
noncomputable def Nm.gV:Nm:=fC 30506403037864304
noncomputable def Nm.gU:Nm:=fC 495874892144
noncomputable def Nm.Xk:Nm:=fC 1801677168
noncomputable def Nm.nN:Nm:=fC 435459026032
noncomputable def Nm.pF:Nm:=fC 1937075312
noncomputable def Nm.pE:Nm:=fC 1953722224
noncomputable def Nm.iY:Nm:=fC 7630704
noncomputable def Nm.WO:Nm:=fC 491328597872
noncomputable def Nm.sC:Nm:=fC 474273385567317315057008
noncomputable def Nm.nM:Nm:=fC 8389754659437245809
noncomputable def Nm.nL:Nm:=fC 7381223203415155058
noncomputable def Nm.wX:Nm:=fC 7234309801262671218
noncomputable def Nm.Hy:Nm:=fC 1718183282
noncomputable def Nm.Ua:Nm:=fC 144388465016590008816067954
noncomputable def Nm.gA:Nm:=fC 31390285217223039731981444466
noncomputable def Nm.jW:Nm:=fC 1953719666
noncomputable def Nm.Ox:Nm:=fC 499967814002
noncomputable def Nm.gW:Nm:=fC 7827314
noncomputable def Nm.gG:Nm:=fC 1926853122990611591026
noncomputable def Nm.iC:Nm:=fC 1937207154
noncomputable def Nm.Ve:Nm:=fC 34171118058496371
noncomputable def Nm.Ah:Nm:=fC 128026154263411
noncomputable def Nm.Ej:Nm:=fC 110425477965171
noncomputable def Nm.bD:Nm:=fC 1718379891
noncomputable def Nm.kQ:Nm:=fC 549795218527000317945203
noncomputable def Nm.yK:Nm:=fC 474450192499
noncomputable def Nm.qA:Nm:=fC 1852270963
noncomputable def Nm.Fk:Nm:=fC 495773510003
noncomputable def Nm.Xj:Nm:=fC 1702521203
noncomputable def Nm.eO:Nm:=fC 1701670771
noncomputable def Nm.Ei:Nm:=fC 1953656691
noncomputable def Nm.Mb:Nm:=fC 1953460339
noncomputable def Nm.Ow:Nm:=fC 431348610163
noncomputable def Nm.pD:Nm:=fC 7955995101679940723
noncomputable def Nm.Eh:Nm:=fC 7173491
noncomputable def Nm.lG:Nm:=fC 112628528412019
noncomputable def Nm.cK:Nm:=fC 1684828020
noncomputable def Nm.jO:Nm:=fC 493274399485596248338292
noncomputable def Nm.sB:Nm:=fC 495606067060
noncomputable def Nm.eZ:Nm:=fC 465491488628
noncomputable def Nm.nW:Nm:=fC 1701147252
noncomputable def Nm.bG:Nm:=fC 448630452852
noncomputable def Nm.lZ:Nm:=fC 126892467647092
noncomputable def Nm.Eg:Nm:=fC 110386807469428
noncomputable def Nm.uH:Nm:=fC 111512004619893
noncomputable def Nm.Xi:Nm:=fC 478693781621
noncomputable def Nm.HN:Nm:=fC 7565429
noncomputable def Nm.Bo:Nm:=fC 118
noncomputable def Nm.dN:Nm:=fC 435761734006
noncomputable def Nm.jV:Nm:=fC 112628528734582
noncomputable def Nm.vB:Nm:=fC 1936875894
noncomputable def Nm.Ma:Nm:=fC 28832903373939062
noncomputable def Nm.pC:Nm:=fC 7954807
noncomputable def Nm.Rh:Nm:=fC 121399003081079
noncomputable def Nm.gE:Nm:=fC 2340514572057671357699756521711991
noncomputable def Nm.Fj:Nm:=fC 32780218652715383
noncomputable def Nm.qM:Nm:=fC 448630255479
noncomputable def Nm.kN:Nm:=fC 120
noncomputable def Nm.Vd:Nm:=fC 7499640
noncomputable def Nm.tE:Nm:=fC 121
noncomputable def Nm.HM:Nm:=fC 122
noncomputable def Nm.VH:Nm:=fC 0
noncomputable def Nm.s_eq:Nm:=fC 61
noncomputable def Nm.Qr:Nm:=fC 15678
noncomputable def Nm.Qq:Nm:=fC 62
noncomputable def Nm.Lq:Nm:=fC 35
noncomputable def Nm.Tu:Nm:=fC 15676
noncomputable def Nm.Qp:Nm:=fC 60
noncomputable def Nm.VG:Nm:=fC 45
noncomputable def Nm.Qo:Nm:=fC 15649
noncomputable def Nm.aDd:Nm:=fC 43
noncomputable def Nm.aDc:Nm:=fC 42
mutual
inductive Cl where | func | flat | KW
inductive Op where | add | sub | mul | fdiv | mod | pow
inductive CZ where | eq | ne | lt | le | gt | ge | Oj | KJ | is
inductive Bt where | len | abs | int | min | max | DZ | Oi | sum | sorted | oM | tuple | dict | range | Bl | sG | is_bool | Eu
end
noncomputable def Cl.ctorIdx (x:Cl):Nat:=Cl.casesOn x 0 1 2
noncomputable def Op.ctorIdx (x:Op):Nat:=Op.casesOn x 0 1 2 3 4 5
noncomputable def CZ.ctorIdx (x:CZ):Nat:=CZ.casesOn x 0 1 2 3 4 5 6 7 8
noncomputable def Bt.ctorIdx (x:Bt):Nat:=Bt.casesOn x 0 1 2 3 4 5 6 7 8 9 10 11 12 13 14 15 16
theorem Cl.idx (a b:Cl):a.ctorIdx=b.ctorIdx->a=b:=by
 cases a<;>cases b<;>first | exact λY=>rfl | exact λh=>nomatch h
noncomputable instance:DecidableEq Cl:=λa b=>if h:a.ctorIdx=b.ctorIdx then isTrue (Cl.idx a b h) else isFalse λe=>h (congrArg Cl.ctorIdx e)
inductive V where
 | un
 | d (x:aE)
 | ref (r:Nat)
 | inst (c:Cl) (r:Nat)
 | GW (lo hi:Int)
 | sd (kvs:List (Nm×aE))
inductive O where
 | list (l:List aE)
 | sJ (l:List aE)
 | di (kvs:List (Int×V))
 | dt (kvs:List (aE×aE))
 | ns (kvs:List (Nm×V))
noncomputable def O.ctorIdx (x:O):Nat:=O.casesOn x (λY=>0) (λY=>1) (λY=>2) (λY=>3) (λY=>4)
structure St where
 objs:List (Nat×O)
 next:Nat
mutual
inductive Ex where
 | v (x:Nm) | Nq (x:Nm)
 | none | bool (b:Bool) | int (i:Int) | str (n:Nm)
 | tup (es:List Ex) | lst (es:List Ex) | zE (es:List Ex) | Xg | Wq (ks:List Nm) (vs:List Ex)
 | bin (o:Op) (a b:Ex) | neg (a:Ex) | not (a:Ex)
 | and (es:List Ex) | or (es:List Ex)
 | cmp (a:Ex) (r:List (CZ×Ex))
 | gR (c a b:Ex)
 | sub (a i:Ex) | Wo (a:Ex) (lo hi:Option Ex)
 | xN (a:Ex) (x:Nm)
 | call (f:Nm) (es:List Ex) | blt (b:Bt) (es:List Ex) | met (o:Ex) (m:Nm) (es:List Ex)
 | comp (e:Ex) (t:Tg) (it:Ex) (ifs:List Ex)
 | BK (e:Ex) | zip (a b:Ex) | Lz | AR | aAv | bad
inductive Tg where
 | n (x:Nm) | t (l:List Tg) | a (o:Ex) (x:Nm) | s (o i:Ex)
end
inductive Sx where
 | ex (e:Ex) | asg (t:Tg) (e:Ex) | qX (ts:List Tg) (es:List Ex)
 | gR (c:Ex) (a b:List Sx) | for (t:Tg) (it:Ex) (body:List Sx) | aAg (c:Ex) (body:List Sx)
 | ret (e:Option Ex) | bad
inductive Fl where
 | next | ret (v:V)
noncomputable def Fl.ctorIdx (x:Fl):Nat:=Fl.casesOn x 0 (λY=>1)
abbrev M (α:Type):=St->Option (α×St)
noncomputable def M.bind {α β:Type} (m:M α) (f:α->M β):M β:=λs=>match m s with
 | some (a,s')=>f a s'
 | none=>none
noncomputable instance:Monad M where
 pure a:=λs=>some (a,s)
 bind:=M.bind
noncomputable def fail {α:Type}:M α:=λY=>none
noncomputable def fI {α:Type} (o:Option α):M α:=match o with
 | some a=>pure a
 | none=>fail
noncomputable def dK (b:Bool):M Unit:=if b then pure () else fail
noncomputable def mC (l:List (Nat×O)) (i:Nat):Option O:=match l with
 | []=>none
 | (k,o)::r=>if k=i then some o else mC r i
noncomputable def lY (l:List (Nat×O)) (i:Nat) (o':O):List (Nat×O):=match l with
 | []=>[]
 | (k,o)::r=>if k=i then (k,o')::r else (k,o)::lY r i o'
noncomputable def EL (r:Nat):M O:=λs=>(mC s.objs r).map λo=>(o,s)
noncomputable def Lw (r:Nat) (o:O):M Unit:=λs=>some ((),{s with objs:=lY s.objs r o})
noncomputable def Ly (o:O):M Nat:=λs=>some (s.next,{objs:=s.objs++[(s.next,o)],next:=s.next+1})
noncomputable def bW:Nat:=10000000
noncomputable def toD (v:V):M aE:=match v with
 | .d x=>pure x
 | _=>fail
noncomputable def aPn {α:Type} (v:V) (f:aE->M α) (g:M α):M α:=match v with
 | .d x=>f x
 | _=>g
noncomputable def aAj (v:V):M Nat:=match v with
 | .ref r=>pure r
 | _=>fail
noncomputable def Uf (x:aE):Option Int:=match x with
 | .int i=>some i
 | _=>none
noncomputable def RN (x:aE):Option Bool:=match x with
 | .bool b=>some b
 | _=>none
noncomputable def YM (x:aE):Option Str:=match x with
 | .str s=>some s
 | _=>none
noncomputable def BQ (x:aE):Option (List aE):=match x with
 | .tuple l=>some l
 | _=>none
noncomputable def LE (x:aE):Option (List aE):=match x with
 | .list l=>some l
 | _=>none
noncomputable def Kj (x:aE):Option (List aE):=match x with
 | .tuple l=>some l
 | .list l=>some l
 | _=>none
noncomputable def ofD {α:Type} (f:aE->Option α) (v:V):M α:=match v with
 | .d x=>fI (f x)
 | _=>fail
noncomputable def Of:List V->M (List aE)
 | []=>pure []
 | v::r=>do let x<-toD v;let xs<-Of r;pure (x::xs)
noncomputable def toInt (v:V):M Int:=ofD Uf v
noncomputable def intsOf:List aE->Option (List Int)
 | []=>some []
 | x::r=>(Uf x).bind λi=>(intsOf r).map (i:: ·)
noncomputable def oLst (o:O):Option (List aE):=match o with
 | .list l=>some l
 | .sJ l=>some l
 | _=>none
noncomputable def Uz (o:O):Option (List aE):=match o with
 | .list l=>some l
 | _=>none
noncomputable def aKh (o:O):Option (List aE):=match o with
 | .sJ l=>some l
 | _=>none
noncomputable def aKi (o:O):Option (List (Int×V)):=match o with
 | .di l=>some l
 | _=>none
noncomputable def aKg (o:O):Option (List (Nm×V)):=match o with
 | .ns l=>some l
 | _=>none
noncomputable def De {α:Type} (f:O->Option α) (r:Nat):M α:=do let o<-EL r;fI (f o)
noncomputable def Uv (v:V):M (List aE):=match v with
 | .d x=>fI (Kj x)
 | .ref r=>De oLst r
 | _=>fail
noncomputable def No (v:V):M (List aE):=match v with
 | .d x=>fI (LE x)
 | .ref r=>De oLst r
 | _=>fail
noncomputable def aCk (x:aE):Option Bool:=match x with
 | .none=>some false
 | .bool b=>some b
 | .int i=>some (i != 0)
 | _=>none
noncomputable def truthOf (v:V):M Bool:=ofD aCk v
noncomputable def Xd (a b:aE):Bool:=decide (min a.depth b.depth<=50)
noncomputable def okIn (xs:List aE) (d:aE):Bool:=decide (min (uO xs) d.depth<=50)
noncomputable def Kf (a b:V) (f:Int->Int->M V):M V:=do let i<-toInt a;let j<-toInt b;f i j
noncomputable def Uy (n:Nat):M Unit:=dK (decide (n<=bW))
noncomputable def aMh (a b:V):M V:=
 let cat:M V:=do let x<-No a;let y<-No b;Uy (x.length+y.length);pure (.d (.list (x++y)))
 aPn a (λx=>match x with
  | .int i=>do let j<-toInt b;pure (.d (.int (i+j)))
  | .tuple x=>do let y<-ofD BQ b;Uy (x.length+y.length);pure (.d (.tuple (x++y)))
  | _=>cat) cat
noncomputable def small (a:Int):Bool:=decide (a.natAbs<2^60)
noncomputable def binOp (o:Op) (a b:V):M V:=match o with
 | .add=>aMh a b
 | .sub=>Kf a b λi j=>pure (.d (.int (i - j)))
 | .mul=>Kf a b λi j=>do dK (small i||small j);pure (.d (.int (i*j)))
 | .fdiv=>Kf a b λi j=>do dK (decide (j≠0)&&small j);pure (.d (.int (i.fdiv j)))
 | .mod=>Kf a b λi j=>do dK (decide (j≠0));pure (.d (.int (i.fmod j)))
 | .pow=>Kf a b λi j=>do dK (decide (i=10/\0<=j/\j<=1000));pure (.d (.int (i^j.toNat)))
noncomputable def Su (v:V):M aE:=match v with
 | .d x=>pure x
 | .ref r=>do let l<-De oLst r;pure (.list l)
 | _=>fail
noncomputable def tI (kvs:List (aE×aE)) (k:aE):Option aE:=(kvs.find? λp=>dC p.1 k).map (·.2)
mutual
noncomputable def Gk:aE->Bool
 | .list _=>false
 | .dict _=>false
 | .tuple xs=>Gy xs
 | .none=>false
 | .int _=>true
 | .str _=>true
 | .bool _=>true
noncomputable def Gy:List aE->Bool
 | []=>true
 | x::xs=>Gk x&&Gy xs
end
noncomputable def isTup (x:aE):Bool:=(BQ x).isSome
noncomputable def keyOk (x:aE):Bool:=isTup x&&Gk x&&decide (x.depth<=6)
noncomputable def nT (b:Bool):M V:=pure (.d (.bool b))
noncomputable def inD (x:aE) (l:List aE):M Bool:=do dK (okIn l x);pure (l.any λy=>dC y x)
noncomputable def nC (o:CZ) (a b:V):M V:=match o with
 | .eq=>do let x<-Su a;let y<-Su b;dK (Xd x y);nT (dC x y)
 | .ne=>do let x<-Su a;let y<-Su b;dK (Xd x y);nT (!dC x y)
 | .lt=>Kf a b λi j=>nT (decide (i<j))
 | .le=>Kf a b λi j=>nT (decide (i<=j))
 | .gt=>Kf a b λi j=>nT (decide (i>j))
 | .ge=>Kf a b λi j=>nT (decide (i>=j))
 | .Oj=>do let x<-toD a;let l<-Uv b;let t<-inD x l;nT t
 | .KJ=>match b with
  | .GW lo hi=>do let i<-toInt a;nT (!(decide (lo<=i)&&decide (i<hi)))
  | .ref r=>do
   let x<-toD a
   let o<-EL r
   match o with
   | .dt kvs=>do dK (keyOk x);nT (!(tI kvs x).isSome)
   | .list l=>do let t<-inD x l;nT (!t)
   | _=>fail
  | .d y=>do let x<-toD a;let l<-fI (LE y);let t<-inD x l;nT (!t)
  | _=>fail
 | .is=>match a with
  | .ref _=>do let y<-toD b;match y with
   | .none=>nT false
   | _=>fail
  | .d x=>do let y<-toD b;match x with
   | .none=>match y with
    | .none=>nT true
    | _=>fail
   | .bool s=>do let t<-fI (RN y);nT (s==t)
   | _=>fail
  | _=>fail
noncomputable def Kg (n:Nat) (i:Int):Option Nat:=if 0<=i/\i<n then some i.toNat else if i<0/\ -i<=n then some (i+n).toNat else none
noncomputable def fF (kvs:List (Int×V)) (k:Int):Option V:=(kvs.find? λp=>p.1==k).map (·.2)
noncomputable def Ed (kvs:List (Nm×aE)) (x:Str):Option aE:=(kvs.find? λp=>p.1.str==x).map (·.2)
noncomputable def atIdx (l:List aE) (i:Int):Option aE:=(Kg l.length i).bind λk=>l[k]?
noncomputable def itemAt (l:List aE) (i:Int):M V:=do let x<-fI (atIdx l i);pure (.d x)
noncomputable def itemOf (o k:V):M V:=match o with
 | .d x=>do
  let i<-toInt k
  match x with
  | .tuple l=>itemAt l i
  | .list l=>do dK (decide (0<=i));itemAt l i
  | _=>fail
 | .ref r=>do
  let x<-toD k
  let o<-EL r
  match o with
  | .list l=>do let i<-fI (Uf x);itemAt l i
  | .sJ l=>do let i<-fI (Uf x);itemAt l i
  | .di kvs=>do let i<-fI (Uf x);fI (fF kvs i)
  | .dt kvs=>do dK (keyOk x);let y<-fI (tI kvs x);pure (.d y)
  | _=>fail
 | .sd kvs=>do let s<-ofD YM k;let y<-fI (Ed kvs s);pure (.d y)
 | _=>fail
noncomputable def cutAt (v:Option V) (n:Nat):M Nat:=match v with
 | none=>pure n
 | some v=>do let i<-toInt v;dK (decide (0<=i));pure i.toNat
noncomputable def aPq (v:Option V):M Unit:=dK v.isNone
noncomputable def aFg (v:Option V):M Int:=do let v<-fI v;toInt v
noncomputable def sliceOf (o:V) (lo hi:Option V):M V:=do
 let x<-toD o
 match x with
 | .tuple l=>do aPq hi;let i<-aFg lo;dK (decide (1<=i/\i<=l.length));pure (.d (.tuple (l.drop i.toNat)))
 | .list l=>do let a<-cutAt lo 0;let b<-cutAt hi l.length;pure (.d (.list ((l.drop a).take (b - a))))
 | .str x=>do aPq lo;let j<-aFg hi;dK (nF (Txt.slice x none (some j)));pure (.d (.str (Txt.slice x none (some j))))
 | _=>fail
noncomputable def mT (x:Nm) (v:V) (l:List (Nm×V)):List (Nm×V):=match l with
 | []=>[]
 | (y,w)::r=>if x=y then (x,v)::r else (y,w)::mT x v r
noncomputable def nB (v:V):Bool:=match v with
 | .un=>false
 | _=>true
noncomputable def attrOk (c:Cl) (x:Nm):Bool:=match c with
 | .func=>[Nm.fZ,.vC,.gV].contains x
 | .flat=>[Nm.vB,.sB,.Eo,.yK].contains x
 | .KW=>false
noncomputable def inst (o:V):M (Cl×Nat):=match o with
 | .inst c r=>pure (c,r)
 | _=>fail
noncomputable def getAttr (o:V) (x:Nm):M V:=do
 let (c,r)<-inst o
 dK (attrOk c x)
 let kvs<-De aKg r
 let v<-fI (kvs.lookup x)
 dK (nB v)
 pure v
noncomputable def setAttr (o:V) (x:Nm) (v:V):M Unit:=do
 let (c,r)<-inst o
 dK (attrOk c x)
 let kvs<-De aKg r
 dK (kvs.lookup x).isSome
 dK (nB v)
 Lw r (.ns (mT x v kvs))
noncomputable def Nr (kvs:List (Int×V)) (i:Int) (y:V):List (Int×V):=if (fF kvs i).isSome then kvs.map λp=>if p.1==i then (p.1,y) else p else kvs++[(i,y)]
noncomputable def setItem (o k v:V):M Unit:=do
 let r<-aAj o
 let x<-toD k
 let o<-EL r
 let y<-toD v
 match o with
 | .list l=>do let i<-fI (Uf x);let j<-fI (Kg l.length i);Lw r (.list (l.set j y))
 | .di kvs=>do
  let i<-fI (Uf x)
  dK (decide (kvs.length<bW))
  Lw r (.di (Nr kvs i (.d y)))
 | .dt kvs=>do
  dK (keyOk x)
  dK (decide (kvs.length<bW)&& !(tI kvs x).isSome)
  Lw r (.dt (kvs++[(x,y)]))
 | _=>fail
noncomputable def ins {α:Type} (le:α->α->Bool) (a:α):List α->List α
 | []=>[a]
 | b::r=>if le a b then a::b::r else b::ins le a r
noncomputable def Sa {α:Type} (le:α->α->Bool):List α->List α
 | []=>[]
 | a::r=>ins le a (Sa le r)
noncomputable def hJ (l:List Int):List Int:=Sa (λa b=>decide (a<=b)) l
noncomputable def dedup:List Int->List Int
 | []=>[]
 | a::r=>if r.contains a then dedup r else a::dedup r
noncomputable def lI (k:Int×Bool):aE:= .tuple [.str Nm.oP.str,.int k.1,.bool k.2]
noncomputable def three (l:List aE):Option (aE×aE×aE):=match l with
 | []=>none
 | a::l=>match l with
  | []=>none
  | b::l=>match l with
   | []=>none
   | c::l=>match l with
    | []=>some (a,b,c)
    | _::_=>none
noncomputable def Yx (x:aE):Option (Int×Bool):=(BQ x).bind λl=>(three l).bind λp=>(YM p.1).bind λs=>(Uf p.2.1).bind λb=>(RN p.2.2).bind λu=>if s=Nm.oP.str then some (b,u) else none
noncomputable def Fz:List aE->Option (List (Int×Bool))
 | []=>some []
 | x::r=>(Yx x).bind λk=>(Fz r).map (k:: ·)
noncomputable def Kp (k:Int×Bool):Int:=2*k.1+(if k.2 then 1 else 0)
noncomputable def bF (l:List (Int×Bool)):List (Int×Bool):=Sa (λa b=>decide (Kp a<=Kp b)) l
noncomputable def Qm (l:List aE):Option (List aE):=match intsOf l with
 | some is=>some ((hJ is).map .int)
 | none=>if l.length<=4 then (Fz l).map λks=>(bF ks).map lI else none
noncomputable def aKp:List Int->Option Int
 | []=>none
 | a::r=>some (r.foldl min a)
noncomputable def aKq:List Int->Option Int
 | []=>none
 | a::r=>some (r.foldl max a)
noncomputable def two {α:Type} (l:List α):Option (α×α):=match l with
 | []=>none
 | a::l=>match l with
  | []=>none
  | b::l=>match l with
   | []=>some (a,b)
   | _::_=>none
noncomputable def one {α:Type} (l:List α):Option α:=match l with
 | []=>none
 | a::l=>match l with
  | []=>some a
  | _::_=>none
noncomputable def pairOf (x:aE):Option (Int×V):=(BQ x).bind λl=>(two l).bind λp=>(Uf p.1).map λk=>(k,.d p.2)
noncomputable def pairsOf:List aE->Option (List (Int×V))
 | []=>some []
 | p::r=>(pairOf p).bind λk=>(pairsOf r).map (k:: ·)
noncomputable def Rv (k:Nat) (x:aE):Option Bool:=match x with
 | .tuple _=>some (k==0)
 | .bool _=>some (k==1||k==2)
 | .int _=>some (k==2)
 | _=>none
noncomputable def aBb (x:aE):Option Int:=match x with
 | .int i=>some i
 | .bool b=>some (if b then 1 else 0)
 | _=>none
noncomputable def aGo (b:Bt) (v:V):M V:=match b with
 | .len=>do let l<-Uv v;pure (.d (.int l.length))
 | .abs=>do let i<-toInt v;pure (.d (.int (if i<0 then -i else i)))
 | .int=>do let i<-ofD aBb v;pure (.d (.int i))
 | .DZ=>do let l<-ofD Kj v;let is<-fI (intsOf l);let m<-fI (aKp is);pure (.d (.int m))
 | .Oi=>do let l<-ofD Kj v;let is<-fI (intsOf l);let m<-fI (aKq is);pure (.d (.int m))
 | .sum=>do let l<-ofD LE v;let is<-fI (intsOf l);pure (.d (.int is.sum))
 | .sorted=>aPn v (λx=>do let l<-fI (Kj x);dK (decide (l.length<=63));let r<-fI (Qm l);pure (.d (.list r)))
   (do let r<-aAj v;let kvs<-De aKi r;dK (decide (kvs.length<=63));pure (.d (.list ((hJ (kvs.map (·.1))).map .int))))
 | .oM=>do let l<-ofD LE v;let is<-fI (intsOf l);dK (decide (l.length<=4)&&is.all λi=>decide (0<=i/\i<64));pure (.d (.list ((hJ (dedup is)).map .int)))
 | .tuple=>do let l<-Uv v;pure (.d (.tuple l))
 | .dict=>do
  let l<-ofD BQ v
  let kvs<-fI (pairsOf l)
  dK (decide (kvs.map (·.1)).Nodup)
  let r<-Ly (.di kvs)
  pure (.ref r)
 | .Bl=>do let n<-toInt v;pure (.GW 0 n)
 | .sG=>do let b<-ofD (Rv 0) v;nT b
 | .is_bool=>do let b<-ofD (Rv 1) v;nT b
 | .Eu=>do let b<-ofD (Rv 2) v;nT b
 | _=>fail
noncomputable def aGn (b:Bt) (v w:V):M V:=match b with
 | .min=>Kf v w λi j=>pure (.d (.int (min i j)))
 | .max=>Kf v w λi j=>pure (.d (.int (max i j)))
 | .range=>do let i<-toInt v;let j<-toInt w;pure (.GW i j)
 | _=>fail
noncomputable def builtin (b:Bt) (vs:List V):M V:=match vs with
 | []=>fail
 | v::r=>match r with
  | []=>aGo b v
  | w::r=>match r with
   | []=>aGn b v w
   | _::_=>fail
noncomputable def Va (o:O):Option Nat:=match o with
 | .list _=>some 1
 | .sJ _=>some 1
 | .di _=>some 2
 | .dt _=>some 2
 | .ns _=>none
noncomputable def kindOf (v:V):M Nat:=match v with
 | .inst _ _=>pure 0
 | .sd _=>pure 2
 | .ref r=>De Va r
 | _=>fail
noncomputable def Rd (v:V) (m:Nm):M Unit:=match v with
 | .inst _ r=>do let kvs<-De aKg r;dK (kvs.all λp=>decide (p.1≠m))
 | _=>pure ()
noncomputable def Rp (r:Nat) (m:Nm) (vs:List V):M V:=
 if m= .iI then do let v<-fI (one vs);let x<-toD v;let l<-De Uz r;dK (decide (l.length<bW));Lw r (.list (l++[x]));pure (.d .none)
 else if m= .uI then do let v<-fI (one vs);let x<-ofD LE v;let l<-De Uz r;Uy (l.length+x.length);Lw r (.list (l++x));pure (.d .none)
 else if m= .Ei then do dK vs.isEmpty;let l<-De Uz r;dK (decide (l.length<=63));let s<-fI (Qm l);Lw r (.list s);pure (.d .none)
 else if m= .qK then do let (v,dv)<-fI (two vs);let i<-toInt v;let kvs<-De aKi r;pure ((fF kvs i).getD dv)
 else if m= .kQ then do
  let (v,dv)<-fI (two vs)
  let i<-toInt v
  let kvs<-De aKi r
  match fF kvs i with
  | some v=>pure v
  | none=>do dK (decide (kvs.length<bW));Lw r (.di (kvs++[(i,dv)]));pure dv
 else fail
noncomputable def method (o:V) (m:Nm) (vs:List V):M V:=match o with
 | .ref r=>Rp r m vs
 | .sd kvs=>do let (v,dv)<-fI (two vs);dK (decide (m= .qK));let x<-ofD YM v;let y<-toD dv;pure (.d ((Ed kvs x).getD y))
 | _=>fail
structure Dg where
 E:List (Nm×V)->Ex->M V
 C:Option Cl->Nm->List V->M V
 B:List Sx->List (Nm×V)->M (Fl×List (Nm×V))
noncomputable def Yd (E:Ex->M V):List Ex->M (List V)
 | []=>pure []
 | e::r=>do let v<-E e;let vs<-Yd E r;pure (v::vs)
noncomputable def aNf (E:Ex->M V) (o:Option Ex):M (Option V):=match o with
 | none=>pure none
 | some e=>do let v<-E e;pure (some v)
noncomputable def ZR (E:Ex->M V) (e:Ex) (r:List Ex):M V:=match r with
 | []=>E e
 | e'::r=>do let v<-E e;let t<-truthOf v;if t then ZR E e' r else pure v
noncomputable def aMy (E:Ex->M V) (e:Ex) (r:List Ex):M V:=match r with
 | []=>E e
 | e'::r=>do let v<-E e;let t<-truthOf v;if t then pure v else aMy E e' r
noncomputable def RQ (E:Ex->M V) (x:V):List (CZ×Ex)->M V
 | []=>fail
 | p::r=>do
  let y<-E p.2
  let c<-nC p.1 x y
  match r with
  | []=>pure c
  | _::_=>do let t<-truthOf c;if t then RQ E y r else pure c
noncomputable def Et (v:V):M (List aE×Option Nat):=match v with
 | .d x=>do let l<-fI (Kj x);pure (l,none)
 | .GW lo hi=>do dK (decide ((hi - lo).toNat<=10000)&&small lo&&small hi);pure ((gH (hi - lo).toNat).map λ(k:Nat)=> .int (lo+(k:Int)),none)
 | .ref r=>do let l<-De Uz r;Lw r (.sJ l);pure (l,some r)
 | _=>fail
noncomputable def vM (e:Ex):Option (Ex×Ex):=match e with
 | .zip a b=>some (a,b)
 | _=>none
noncomputable def Np (E:Ex->M V) (e:Ex):M (List aE×Option Nat):=match vM e with
 | some p=>do
  let x<-E p.1
  let y<-E p.2
  let xs<-ofD Kj x
  let ys<-ofD Kj y
  dK (decide (xs.length<=ys.length))
  pure ((xs.zip ys).map λp=> .tuple [p.1,p.2],none)
 | none=>do let v<-E e;Et v
noncomputable def Og (fr:Option Nat):M Unit:=match fr with
 | none=>pure ()
 | some r=>do let l<-De aKh r;Lw r (.list l)
mutual
noncomputable def sK:Tg->aE->Option (List (Nm×V))
 | .n x,v=>some [(x,.d v)]
 | .t ts,v=>(BQ v).bind λl=>Ph ts l
 | .a _ _,_=>none
 | .s _ _,_=>none
noncomputable def Ph:List Tg->List aE->Option (List (Nm×V))
 | [],l=>if l.isEmpty then some [] else none
 | t::ts,l=>match l with
  | []=>none
  | x::xs=>(sK t x).bind λa=>(Ph ts xs).map (a++ ·)
end
noncomputable def mL:List (Nm×V)->List (Nm×V)->List (Nm×V)
 | [],ρ=>ρ
 | p::r,ρ=>mL r (mT p.1 p.2 ρ)
noncomputable def XP (E:Ex->M V):List Ex->M Bool
 | []=>pure true
 | e::r=>do let v<-E e;let t<-truthOf v;if t then XP E r else pure false
noncomputable def kL (E:List (Nm×V)->Ex->M V) (ρ:List (Nm×V)) (e:Ex) (t:Tg) (ifs:List Ex):List aE->M (List aE)
 | []=>pure []
 | x::xs=>do
  let b<-fI (sK t x)
  let k<-XP (E (b++ρ)) ifs
  if k then do
   let v<-E (b++ρ) e
   let y<-toD v
   let ys<-kL E ρ e t ifs xs
   pure (y::ys)
  else kL E ρ e t ifs xs
noncomputable def aKk (x:aE):Bool:=match x with
 | .none=>true
 | _=>false
noncomputable def HF (v:V):M Unit:=do let x<-toD v;dK (aKk x)
noncomputable def Nq (x:Nm):Option V:=
 if x= .xE then some (.d (.tuple [.tuple [.int 0,.int 1]]))
 else if x= .Bu then some (.d (.int 1000))
 else if x= .Ro then some (.sd [(.Qp,.str Nm.Qr.str),(.Tu,.str Nm.Qq.str),(.Qq,.str Nm.Tu.str),(.Qr,.str Nm.Qp.str),(.s_eq,.str Nm.Qo.str),(.Qo,.str Nm.s_eq.str)])
 else none
noncomputable def pL (i:Int):Str:=Nm.Lq.str++aZ (toString i)
noncomputable def hY (X:Dg) (ρ:List (Nm×V)) (e:Ex):M V:=match e with
 | .v x=>do let v<-fI (ρ.lookup x);dK (nB v);pure v
 | .Nq x=>fI (Nq x)
 | .none=>pure (.d .none)
 | .bool b=>nT b
 | .int i=>pure (.d (.int i))
 | .str n=>pure (.d (.str n.str))
 | .tup es=>do let vs<-Yd (X.E ρ) es;let l<-Of vs;pure (.d (.tuple l))
 | .lst es=>do let vs<-Yd (X.E ρ) es;let l<-Of vs;pure (.d (.list l))
 | .zE es=>do let vs<-Yd (X.E ρ) es;let l<-Of vs;let r<-Ly (.list l);pure (.ref r)
 | .Xg=>do let r<-Ly (.di []);pure (.ref r)
 | .Wq ks es=>do let vs<-Yd (X.E ρ) es;let l<-Of vs;pure (.sd (ks.zip l))
 | .bin o a b=>do let x<-X.E ρ a;let y<-X.E ρ b;binOp o x y
 | .neg a=>do let x<-X.E ρ a;let i<-toInt x;pure (.d (.int (-i)))
 | .not a=>do let x<-X.E ρ a;let t<-truthOf x;nT (!t)
 | .and es=>match es with
  | []=>fail
  | e::r=>ZR (X.E ρ) e r
 | .or es=>match es with
  | []=>fail
  | e::r=>aMy (X.E ρ) e r
 | .cmp a r=>do let x<-X.E ρ a;RQ (X.E ρ) x r
 | .gR c a b=>do let x<-X.E ρ c;let t<-truthOf x;if t then X.E ρ a else X.E ρ b
 | .sub a i=>do let o<-X.E ρ a;let k<-X.E ρ i;itemOf o k
 | .Wo a lo hi=>do let o<-X.E ρ a;let l<-aNf (X.E ρ) lo;let h<-aNf (X.E ρ) hi;sliceOf o l h
 | .xN a x=>do let o<-X.E ρ a;getAttr o x
 | .call f es=>do let vs<-Yd (X.E ρ) es;X.C none f vs
 | .blt b es=>do let vs<-Yd (X.E ρ) es;builtin b vs
 | .met o m es=>do
  let ov<-X.E ρ o
  let k<-kindOf ov
  Rd ov m
  let vs<-Yd (X.E ρ) es
  match ov with
  | .inst c r=>X.C (some c) m (.inst c r::vs)
  | ov=>do
   let k'<-kindOf ov
   dK (k==k')
   method ov m vs
 | .comp e t it ifs=>do
  let p<-Np (X.E ρ) it
  let ys<-kL X.E ρ e t ifs p.1
  Og p.2
  pure (.d (.list ys))
 | .BK e=>do let v<-X.E ρ e;let i<-toInt v;dK (decide (i.natAbs<10^9)&&nF (pL i)&&decide ((pL i).cps.size<=bW));pure (.d (.str (pL i)))
 | .aAv=>do let r<-Ly (.dt []);pure (.ref r)
 | .AR=>do
  let r<-Ly (.ns [(.vB,.un),(.sB,.un),(.Eo,.un),(.yK,.un)])
  let u<-X.C (some .flat) .kC [.inst .flat r]
  HF u
  pure (.inst .flat r)
 | .Lz=>do
  let r<-Ly (.ns [(.fZ,.un),(.vC,.un),(.gV,.un)])
  let u<-X.C (some .KW) .kC [.inst .func r]
  HF u
  setAttr (.inst .func r) .gV (.d .none)
  pure (.inst .func r)
 | .zip _ _=>fail
 | .bad=>fail
mutual
noncomputable def Ul:Tg->aE->List (Nm×V)->Option (List (Nm×V))
 | .n x,v,ρ=>some (mT x (.d v) ρ)
 | .t ts,v,ρ=>(Kj v).bind λl=>Kr ts l ρ
 | .a _ _,_,_=>none
 | .s _ _,_,_=>none
noncomputable def Kr:List Tg->List aE->List (Nm×V)->Option (List (Nm×V))
 | [],l,ρ=>if l.isEmpty then some ρ else none
 | t::ts,l,ρ=>match l with
  | []=>none
  | x::xs=>(Ul t x ρ).bind λρ'=>Kr ts xs ρ'
end
noncomputable def On (E:List (Nm×V)->Ex->M V) (t:Tg) (v:V) (ρ:List (Nm×V)):M (List (Nm×V)):=match t with
 | .n x=>pure (mT x v ρ)
 | .t ts=>do let x<-toD v;fI (Ul (.t ts) x ρ)
 | .a o x=>do let ov<-E ρ o;setAttr ov x v;pure ρ
 | .s o i=>do let ov<-E ρ o;let iv<-E ρ i;setItem ov iv v;pure ρ
noncomputable def Kq (E:List (Nm×V)->Ex->M V) (ts:List Tg) (vs:List V) (ρ:List (Nm×V)):M (List (Nm×V)):=match ts with
 | []=>do dK vs.isEmpty;pure ρ
 | t::ts=>match vs with
  | []=>fail
  | v::vs=>do let ρ'<-On E t v ρ;Kq E ts vs ρ'
noncomputable def forL (B:List Sx->List (Nm×V)->M (Fl×List (Nm×V))) (t:Tg) (body:List Sx) (l:List aE) (ρ:List (Nm×V)):M (Fl×List (Nm×V)):=match l with
 | []=>pure (.next,ρ)
 | x::xs=>do
  let b<-fI (sK t x)
  let p<-B body (mL b ρ)
  match p.1 with
  | .next=>forL B t body xs p.2
  | .ret v=>pure (.ret v,p.2)
noncomputable def Wc (E:List (Nm×V)->Ex->M V) (B:List Sx->List (Nm×V)->M (Fl×List (Nm×V))) (c:Ex) (body:List Sx) (n:Nat) (ρ:List (Nm×V)):M (Fl×List (Nm×V)):=match n with
 | 0=>fail
 | k+1=>do
  let v<-E ρ c
  let t<-truthOf v
  if t then do
   let p<-B body ρ
   match p.1 with
   | .next=>Wc E B c body k p.2
   | .ret v=>pure (.ret v,p.2)
  else pure (.next,ρ)
noncomputable def aBp (x:aE):Bool:=match x with
 | .tuple _=>false
 | .list _=>false
 | .dict _=>false
 | _=>true
noncomputable def zZ (X:Dg) (s:Sx) (ρ:List (Nm×V)):M (Fl×List (Nm×V)):=match s with
 | .ex e=>do let v<-X.E ρ e;let x<-toD v;dK (aBp x);pure (.next,ρ)
 | .asg t e=>do let v<-X.E ρ e;let ρ'<-On X.E t v ρ;pure (.next,ρ')
 | .qX ts es=>do let vs<-Yd (X.E ρ) es;let ρ'<-Kq X.E ts vs ρ;pure (.next,ρ')
 | .gR c a b=>do let v<-X.E ρ c;let t<-truthOf v;if t then X.B a ρ else X.B b ρ
 | .for t it body=>do
  let p<-Np (X.E ρ) it
  let r<-forL X.B t body p.1 ρ
  Og p.2
  pure r
 | .aAg c body=>Wc X.E X.B c body (10^30) ρ
 | .ret o=>match o with
  | none=>pure (.ret (.d .none),ρ)
  | some e=>do let v<-X.E ρ e;pure (.ret v,ρ)
 | .bad=>fail
noncomputable def Jo (X:Dg) (l:List Sx) (ρ:List (Nm×V)):M (Fl×List (Nm×V)):=match l with
 | []=>pure (.next,ρ)
 | s::r=>do
  let p<-zZ X s ρ
  match p.1 with
  | .next=>Jo X r p.2
  | .ret v=>pure (.ret v,p.2)
noncomputable def FM:List Sx:=[
 .ret (some (.gR (.cmp (.v .dY) [(.le,.v .cT)]) (.tup [.tup [.v .dY,.v .cT]]) (.tup [])))]
noncomputable def Yz:List Sx:=[
 .gR (.and [.cmp (.blt .len [.v .dE]) [(.gt,.int 0)],.cmp (.v .dY) [(.le,.bin .add (.sub (.sub (.v .dE) (.neg (.int 1))) (.int 1)) (.int 1))]]) [
  .gR (.cmp (.v .cT) [(.gt,.sub (.sub (.v .dE) (.neg (.int 1))) (.int 1))]) [
   .asg (.s (.v .dE) (.neg (.int 1))) (.tup [.sub (.sub (.v .dE) (.neg (.int 1))) (.int 0),.v .cT])] []] [
  .ex (.met (.v .dE) .iI [.tup [.v .dY,.v .cT]])]]
noncomputable def Uj:List Sx:=[
 .asg (.n .dE) (.zE []),
 .for (.n .Bo) (.blt .sorted [.v .lA]) [
  .ex (.call .sC [.v .dE,.v .Bo,.v .Bo])],
 .ret (some (.blt .tuple [.v .dE]))]
noncomputable def ZJ:List Sx:=[
 .ret (some (.sub (.sub (.v .Vf) (.int 0)) (.int 0)))]
noncomputable def FV:List Sx:=[
 .ret (some (.sub (.sub (.v .Vf) (.neg (.int 1))) (.int 1)))]
noncomputable def CL:List Sx:=[
 .for (.t [.n .dY,.n .cT]) (.v .Vf) [
  .gR (.cmp (.v .Bo) [(.le,.v .cT)]) [
   .ret (some (.blt .max [.v .dY,.v .Bo]))] []],
 .ret (some (.none))]
noncomputable def aMd:List Sx:=[
 .ret (some (.cmp (.call .Ek [.v .Vf,.v .Bo]) [(.eq,.v .Bo)]))]
noncomputable def ZI:List Sx:=[
 .ret (some (.blt .tuple [.comp (.tup [.v .dY,.blt .min [.v .cT,.v .Zi]]) (.t [.n .dY,.n .cT]) (.v .Vf) [.cmp (.v .dY) [(.le,.v .Zi)]]]))]
noncomputable def LW:List Sx:=[
 .ret (some (.blt .tuple [.comp (.tup [.blt .max [.v .dY,.v .Zi],.v .cT]) (.t [.n .dY,.n .cT]) (.v .Vf) [.cmp (.v .cT) [(.ge,.v .Zi)]]]))]
noncomputable def LS:List Sx:=[
 .ret (some (.bin .add (.call .Xi [.v .Vf,.bin .sub (.v .Bo) (.int 1)]) (.call .Mf [.v .Vf,.bin .add (.v .Bo) (.int 1)])))]
noncomputable def FU:List Sx:=[
 .ret (some (.and [.blt .sG [.v .dN],.cmp (.blt .len [.v .dN]) [(.eq,.int 2)],.bad]))]
noncomputable def FN:List Sx:=[
 .gR (.cmp (.v .Kw) [(.eq,.int 0)]) [
  .bad] [],
 .asg (.n .dE) (.bin .fdiv (.blt .abs [.v .mI]) (.blt .abs [.v .Kw])),
 .ret (some (.gR (.cmp (.cmp (.v .mI) [(.lt,.int 0)]) [(.eq,.cmp (.v .Kw) [(.lt,.int 0)])]) (.v .dE) (.neg (.v .dE))))]
noncomputable def Mp:List Sx:=[
 .gR (.cmp (.blt .abs [.v .Ri]) [(.ge,.bin .pow (.int 10) (.Nq .Bu))]) [
  .bad] [],
 .ret (some (.v .Ri))]
noncomputable def FL:List Sx:=[
 .gR (.cmp (.v .qA) [(.eq,.str .aDd)]) [
  .ret (some (.call .gE [.bin .add (.v .mI) (.v .Kw)]))] [],
 .gR (.cmp (.v .qA) [(.eq,.str .VG)]) [
  .ret (some (.call .gE [.bin .sub (.v .mI) (.v .Kw)]))] [],
 .gR (.cmp (.v .qA) [(.eq,.str .aDc)]) [
  .ret (some (.call .gE [.bin .mul (.v .mI) (.v .Kw)]))] [],
 .gR (.cmp (.v .qA) [(.eq,.str .xB)]) [
  .ret (some (.call .nM [.v .mI,.v .Kw,.v .Mb]))] [],
 .gR (.cmp (.v .qA) [(.eq,.str .Ai)]) [
  .ret (some (.bin .sub (.v .mI) (.bin .mul (.v .Kw) (.call .nM [.v .mI,.v .Kw,.v .Mb]))))] [],
 .ret (some (.call .WO [.v .mI,.v .Kw,.v .Mb]))]
noncomputable def LV:List Sx:=[
 .ret (some (.and [.blt .sG [.v .dN],.cmp (.blt .len [.v .dN]) [(.eq,.int 3)],.cmp (.sub (.v .dN) (.int 0)) [(.eq,.v .mH)]]))]
noncomputable def FR:List Sx:=[
 .ret (some (.or [.blt .is_bool [.v .dN],.call .rC [.v .dN,.str .oP]]))]
noncomputable def FT:List Sx:=[
 .gR (.call .Ia [.v .dN]) [
  .ret (some (.cmp (.comp (.v .dP) (.n .dP) (.sub (.v .dN) (.int 1)) [.not (.call .pI [.v .dP])]) [(.eq,.lst [])]))] [],
 .ret (some (.and [.not (.call .rC [.v .dN,.str .Eh]),.not (.call .rC [.v .dN,.str .oP])]))]
noncomputable def SR:List Sx:=[
 .gR (.call .rC [.v .dN,.str .Eh]) [
  .ret (some (.v .dN))] [],
 .gR (.not (.call .rC [.v .dN,.str .oP])) [
  .ret (some (.tup [.str .Eh,.tup [],.blt .int [.v .dN]]))] [],
 .ret (some (.gR (.sub (.v .dN) (.int 2)) (.tup [.str .Eh,.tup [.tup [.sub (.v .dN) (.int 1),.int 1]],.int 0]) (.tup [.str .Eh,.tup [.tup [.sub (.v .dN) (.int 1),.neg (.int 1)]],.int 1])))]
noncomputable def aGt:List Sx:=[
 .qX [.n .dP,.n .dO] [.call .lG [.v .dP],.call .lG [.v .dO]],
 .qX [.n .gU,.n .qT] [.blt .dict [.sub (.v .dP) (.int 1)],.call .gE [.bin .add (.sub (.v .dP) (.int 2)) (.bin .mul (.v .xA) (.sub (.v .dO) (.int 2)))]],
 .for (.t [.n .kN,.n .mI]) (.sub (.v .dO) (.int 1)) [
  .asg (.s (.v .gU) (.v .kN)) (.call .gE [.bin .add (.met (.v .gU) .qK [.v .kN,.int 0]) (.bin .mul (.v .xA) (.v .mI))])],
 .asg (.n .dE) (.blt .tuple [.comp (.tup [.v .kN,.sub (.v .gU) (.v .kN)]) (.n .kN) (.blt .sorted [.v .gU]) [.cmp (.sub (.v .gU) (.v .kN)) [(.ne,.int 0)]]]),
 .ret (some (.gR (.cmp (.v .dE) [(.ne,.tup [])]) (.tup [.str .Eh,.v .dE,.v .qT]) (.v .qT)))]
noncomputable def FW:List Sx:=[
 .ret (some (.gR (.blt .is_bool [.v .bG]) (.not (.v .bG)) (.tup [.str .oP,.sub (.v .bG) (.int 1),.not (.sub (.v .bG) (.int 2))])))]
noncomputable def CQ:List Sx:=[
 .asg (.n .dE) (.int 0),
 .for (.n .mI) (.v .lA) [
  .qX [.n .dE,.n .jW] [.blt .abs [.v .mI],.v .dE],
  .aAg (.cmp (.v .jW) [(.gt,.int 0)]) [
   .qX [.n .dE,.n .jW] [.v .jW,.bin .mod (.v .dE) (.v .jW)]]],
 .ret (some (.v .dE))]
noncomputable def FP:List Sx:=[
 .asg (.n .Rk) (.bin .mod (.sub (.v .iY) (.int 0)) (.v .El)),
 .asg (.s (.v .iY) (.int 0)) (.bin .fdiv (.sub (.v .iY) (.int 0)) (.v .El)),
 .ret (some (.v .Rk))]
noncomputable def FQ:List Sx:=[
 .asg (.n .pC) (.call .jJ [.v .iY,.int 3]),
 .ret (some (.gR (.cmp (.v .pC) [(.eq,.int 0)]) (.tup [.str .kN]) (.gR (.cmp (.v .pC) [(.eq,.int 1)]) (.tup [.str .tE]) (.tup [.str .WP,.bin .sub (.call .jJ [.v .iY,.int 4]) (.int 1)]))))]
noncomputable def FO:List Sx:=[
 .asg (.n .pC) (.call .jJ [.v .iY,.int 6]),
 .asg (.n .Ka) (.gR (.and [.v .Fm,.cmp (.call .jJ [.v .iY,.int 2]) [(.eq,.int 0)]]) (.call .qS [.v .iY,.bool false]) (.call .nO [.v .iY])),
 .asg (.n .Ej) (.call .nO [.v .iY]),
 .gR (.cmp (.v .pC) [(.eq,.int 4)]) [
  .ret (some (.tup [.str .Xk,.v .Ka,.v .Ej,.call .nO [.v .iY]]))] [],
 .ret (some (.tup [.sub (.tup [.str .nM,.str .nM,.str .jW,.str .jW,.str .VH,.str .Xm]) (.v .pC),.v .Ka,.v .Ej]))]
noncomputable def Za:List Sx:=[
 .gR (.cmp (.sub (.v .nW) (.int 0)) [(.eq,.str .WP)]) [
  .ret (some (.sub (.v .nW) (.int 1)))] [],
 .gR (.cmp (.blt .len [.v .nW]) [(.eq,.int 1)]) [
  .ret (some (.tup [.str .Eh,.tup [.tup [.gR (.cmp (.sub (.v .nW) (.int 0)) [(.eq,.str .kN)]) (.int 0) (.int 1),.int 1]],.int 0]))] [],
 .asg (.n .gU) (.comp (.call .nP [.v .Cp,.v .Mc]) (.n .Mc) (.Wo (.v .nW) (some (.int 1)) none) []),
 .gR (.cmp (.sub (.v .nW) (.int 0)) [(.eq,.str .Xm)]) [
  .ret (some (.call .pF [.sub (.v .gU) (.int 0),.sub (.v .gU) (.int 1),.int 1]))] [],
 .gR (.cmp (.sub (.v .nW) (.int 0)) [(.eq,.str .Xk)]) [
  .ret (some (.met (.v .Cp) .kA [.tup [.tup [.tup [.int 1,.int 2]],.Wo (.v .gU) (some (.int 1)) none],.Wo (.v .gU) none (some (.int 1)),.int 0]))] [],
 .ret (some (.met (.v .Cp) .Fo [.gR (.cmp (.sub (.v .nW) (.int 0)) [(.eq,.str .nM)]) (.str .xB) (.str .Ai),.sub (.v .gU) (.int 0),.sub (.v .gU) (.int 1)]))]
noncomputable def Te:List Sx:=[
 .gR (.cmp (.sub (.v .nW) (.int 0)) [(.Oj,.tup [.str .kN,.str .tE,.str .WP])]) [
  .ret (some (.lst [.met (.Wq [.kN,.tE] [.v .kN,.v .tE]) .qK [.sub (.v .nW) (.int 0),.sub (.v .nW) (.neg (.int 1))]]))] [],
 .asg (.n .gU) (.comp (.call .cV [.v .Mc,.v .kN,.v .tE]) (.n .Mc) (.Wo (.v .nW) (some (.int 1)) none) []),
 .gR (.cmp (.lst []) [(.Oj,.v .gU)]) [
  .ret (some (.lst []))] [],
 .asg (.n .eO) (.comp (.sub (.v .Mc) (.int 0)) (.n .Mc) (.v .gU) []),
 .gR (.cmp (.sub (.v .nW) (.int 0)) [(.eq,.str .Xm)]) [
  .ret (some (.lst [.bin .add (.sub (.v .eO) (.int 0)) (.sub (.v .eO) (.int 1))]))] [],
 .gR (.cmp (.sub (.v .nW) (.int 0)) [(.eq,.str .Xk)]) [
  .ret (some (.gR (.cmp (.sub (.v .eO) (.int 0)) [(.Oj,.tup [.int 1,.int 2])]) (.Wo (.v .eO) (some (.sub (.v .eO) (.int 0))) (some (.bin .add (.sub (.v .eO) (.int 0)) (.int 1)))) (.lst [])))] [],
 .gR (.cmp (.sub (.v .eO) (.int 1)) [(.eq,.int 0)]) [
  .ret (some (.lst []))] [],
 .asg (.n .yL) (.blt .Oi [.comp (.v .Zi) (.n .Zi) (.blt .Bl [.int 6]) [.cmp (.bin .mul (.v .Zi) (.blt .abs [.sub (.v .eO) (.int 1)])) [(.le,.blt .abs [.sub (.v .eO) (.int 0)])]]]),
 .asg (.n .yL) (.gR (.cmp (.bin .mul (.sub (.v .eO) (.int 0)) (.sub (.v .eO) (.int 1))) [(.gt,.int 0)]) (.v .yL) (.bin .sub (.int 0) (.v .yL))),
 .ret (some (.lst [.gR (.cmp (.sub (.v .nW) (.int 0)) [(.eq,.str .nM)]) (.v .yL) (.bin .sub (.sub (.v .eO) (.int 0)) (.bin .mul (.v .yL) (.sub (.v .eO) (.int 1))))]))]
noncomputable def CO:List Sx:=[
 .qX [.n .dP,.n .dO] [.call .cV [.sub (.v .gW) (.int 1),.v .kN,.v .tE],.call .cV [.sub (.v .gW) (.int 2),.v .kN,.v .tE]],
 .gR (.or [.cmp (.v .dP) [(.eq,.lst [])],.cmp (.v .dO) [(.eq,.lst [])]]) [
  .ret (some (.bool false))] [],
 .qX [.n .mI,.n .Br] [.sub (.v .dP) (.int 0),.sub (.v .dO) (.int 0)],
 .ret (some (.sub (.Wq [.Qp,.Tu,.s_eq,.Qo,.Qr,.Qq] [.cmp (.v .mI) [(.lt,.v .Br)],.cmp (.v .mI) [(.le,.v .Br)],.cmp (.v .mI) [(.eq,.v .Br)],.cmp (.v .mI) [(.ne,.v .Br)],.cmp (.v .mI) [(.ge,.v .Br)],.cmp (.v .mI) [(.gt,.v .Br)]]) (.sub (.v .gW) (.int 0))))]
noncomputable def CM:List Sx:=[
 .asg (.a (.v .Cp) .gV) (.zE []),
 .asg (.n .dE) (.met (.v .Cp) .tH [.sub (.v .gW) (.int 0),.call .nP [.v .Cp,.sub (.v .gW) (.int 1)],.call .nP [.v .Cp,.sub (.v .gW) (.int 2)]]),
 .qX [.n .Xl,.a (.v .Cp) .gV] [.xN (.v .Cp) .gV,.none],
 .ret (some (.met (.v .Cp) .jC [.bin .add (.v .Xl) (.lst [.v .dE])]))]
noncomputable def CN:List Sx:=[
 .gR (.cmp (.Wo (.sub (.v .cK) (.int 0)) none (some (.int 6))) [(.eq,.str .AT)]) [
  .ret (some (.sub (.v .cK) (.int 2)))] [],
 .gR (.cmp (.sub (.v .cK) (.int 0)) [(.Oj,.tup [.str .Hy,.str .AU])]) [
  .ret (some (.bin .add (.tup [.sub (.v .cK) (.int 1)]) (.sub (.sub (.v .cK) (.int 2)) (.int 2))))] [],
 .gR (.cmp (.sub (.v .cK) (.int 0)) [(.eq,.str .Aj)]) [
  .ret (some (.bin .add (.sub (.v .cK) (.int 1)) (.sub (.v .cK) (.int 2))))] [],
 .gR (.cmp (.sub (.v .cK) (.int 0)) [(.Oj,.tup [.str .Vg,.str .AS])]) [
  .ret (some (.bin .add (.sub (.v .cK) (.int 1)) (.Wo (.v .cK) (some (.int 2)) none)))] [],
 .gR (.cmp (.sub (.v .cK) (.int 0)) [(.eq,.str .kA)]) [
  .ret (some (.bin .add (.sub (.v .cK) (.int 2)) (.tup [.sub (.v .cK) (.int 1),.sub (.v .cK) (.int 3)])))] [],
 .ret (some (.gR (.cmp (.sub (.v .cK) (.int 0)) [(.eq,.str .pQ)]) (.tup [.sub (.v .cK) (.int 1),.sub (.v .cK) (.int 3)]) (.Wo (.v .cK) (some (.int 1)) none)))]
noncomputable def Ui:List Sx:=[
 .asg (.n .pG) (.sub (.v .cK) (.int 0)),
 .gR (.cmp (.Wo (.v .pG) none (some (.int 6))) [(.eq,.str .AT)]) [
  .asg (.n .eZ) (.bin .sub (.blt .sum [.comp (.bin .mul (.v .mI) (.sub (.v .Bo) (.v .kN))) (.t [.n .mI,.n .kN]) (.zip (.sub (.v .cK) (.int 1)) (.sub (.v .cK) (.int 2))) []]) (.sub (.v .cK) (.int 3))),
  .ret (some (.gR (.cmp (.v .pG) [(.eq,.str .kU)]) (.cmp (.v .eZ) [(.le,.int 0)]) (.cmp (.cmp (.v .eZ) [(.eq,.int 0)]) [(.is,.cmp (.v .pG) [(.eq,.str .mA)])])))] [],
 .gR (.cmp (.v .pG) [(.eq,.str .Hy)]) [
  .ret (some (.cmp (.call .dB [.sub (.v .cK) (.int 2),.v .Bo]) [(.is,.cmp (.sub (.v .Bo) (.sub (.v .cK) (.int 1))) [(.eq,.int 1)])]))] [],
 .gR (.cmp (.v .pG) [(.eq,.str .AU)]) [
  .ret (some (.or [.cmp (.sub (.v .Bo) (.sub (.v .cK) (.int 1))) [(.ne,.int 1)],.call .dB [.sub (.v .cK) (.int 2),.v .Bo]]))] [],
 .gR (.cmp (.v .pG) [(.eq,.str .Aj)]) [
  .ret (some (.cmp (.bin .add (.blt .sum [.comp (.sub (.v .Bo) (.v .kN)) (.n .kN) (.sub (.v .cK) (.int 1)) []]) (.blt .sum [.comp (.bin .sub (.int 1) (.sub (.v .Bo) (.v .kN))) (.n .kN) (.sub (.v .cK) (.int 2)) []])) [(.gt,.int 0)]))] [],
 .gR (.cmp (.v .pG) [(.Oj,.tup [.str .Vg,.str .AS])]) [
  .asg (.n .El) (.blt .sum [.comp (.sub (.v .Bo) (.v .kN)) (.n .kN) (.sub (.v .cK) (.int 1)) []]),
  .ret (some (.cmp (.gR (.cmp (.v .pG) [(.eq,.str .Vg)]) (.cmp (.v .El) [(.eq,.blt .len [.sub (.v .cK) (.int 1)])]) (.cmp (.v .El) [(.gt,.int 0)])) [(.is,.cmp (.sub (.v .Bo) (.sub (.v .cK) (.int 2))) [(.eq,.int 1)])]))] [],
 .gR (.cmp (.v .pG) [(.eq,.str .Vd)]) [
  .ret (some (.cmp (.bin .mod (.bin .add (.bin .add (.sub (.v .Bo) (.sub (.v .cK) (.int 1))) (.sub (.v .Bo) (.sub (.v .cK) (.int 2)))) (.sub (.v .Bo) (.sub (.v .cK) (.int 3)))) (.int 2)) [(.eq,.int 0)]))] [],
 .gR (.cmp (.v .pG) [(.Oj,.tup [.str .kA,.str .pQ])]) [
  .asg (.n .nN) (.bin .sub (.sub (.v .Bo) (.sub (.v .cK) (.int 1))) (.int 1)),
  .gR (.cmp (.v .nN) [(.KJ,.blt .Bl [.blt .len [.sub (.v .cK) (.int 2)]])]) [
   .ret (some (.bool false))] [],
  .ret (some (.cmp (.sub (.v .Bo) (.sub (.v .cK) (.int 3))) [(.eq,.gR (.cmp (.v .pG) [(.eq,.str .kA)]) (.sub (.v .Bo) (.sub (.sub (.v .cK) (.int 2)) (.v .nN))) (.sub (.sub (.v .cK) (.int 2)) (.v .nN)))]))] [],
 .asg (.t [.n .kN,.n .tE,.n .HM]) (.comp (.sub (.v .Bo) (.v .dP)) (.n .dP) (.Wo (.v .cK) (some (.int 1)) none) []),
 .asg (.n .jW) (.gR (.cmp (.v .pG) [(.eq,.str .xB)]) (.bin .sub (.v .kN) (.bin .mul (.v .tE) (.v .HM))) (.v .HM)),
 .ret (some (.and [.cmp (.blt .abs [.v .jW]) [(.lt,.blt .abs [.v .tE])],.cmp (.bin .mul (.v .jW) (.v .kN)) [(.ge,.int 0)],.cmp (.bin .mod (.bin .sub (.v .kN) (.v .jW)) (.v .tE)) [(.eq,.int 0)]]))]
noncomputable def Ol:List Sx:=[
 .asg (.n .Oz) (.bin .add (.bin .add (.met (.v .nY) .qK [.neg (.int 1),.lst []]) (.met (.v .nY) .qK [.int 0,.lst []])) (.met (.v .nY) .qK [.int 1,.lst []])),
 .asg (.n .iC) (.gR (.cmp (.comp (.v .cK) (.n .cK) (.v .Oz) [.not (.call .dB [.v .cK,.v .Fp])]) [(.eq,.lst [])]) (.lst [.v .Fp]) (.lst [])),
 .for (.n .dP) (.blt .range [.blt .len [.v .Fp],.met (.v .fZ) .Xj []]) [
  .asg (.n .yN) (.zE []),
  .for (.n .gW) (.v .iC) [
   .for (.t [.n .dY,.n .cT]) (.met (.v .fZ) .jX [.v .dP]) [
    .for (.n .qM) (.blt .range [.v .dY,.bin .add (.v .cT) (.int 1)]) [
     .gR (.cmp (.comp (.v .cK) (.n .cK) (.met (.v .nY) .qK [.v .dP,.lst []]) [.not (.call .dB [.v .cK,.bin .add (.v .gW) (.lst [.v .qM])])]) [(.eq,.lst [])]) [
      .ex (.met (.v .yN) .iI [.bin .add (.v .gW) (.lst [.v .qM])])] []]]],
  .asg (.n .iC) (.v .yN)],
 .ret (some (.blt .len [.v .iC]))]
noncomputable def aMc:List Sx:=[
 .qX [.n .iY,.n .Cp,.n .nY] [.zE [.int 1],.Lz,.Xg],
 .for (.n .xD) (.Wo (.v .Ah) none (some (.int 40))) [
  .asg (.s (.v .iY) (.int 0)) (.bin .mod (.bin .add (.bin .mul (.sub (.v .iY) (.int 0)) (.int 100003)) (.v .xD)) (.bin .pow (.int 10) (.int 120)))],
 .ex (.met (.xN (.v .Cp) .fZ) .tF [.str .kN,.tup [.tup [.neg (.int 1),.int 1]]]),
 .ex (.met (.xN (.v .Cp) .fZ) .tF [.str .tE,.tup [.tup [.neg (.int 1),.int 0]]]),
 .asg (.n .iC) (.zE []),
 .for (.n .Nj) (.blt .Bl [.int 2]) [
  .ex (.met (.v .iC) .iI [.tup [.sub (.tup [.str .Tu,.str .Qp,.str .s_eq,.str .Qo,.str .Qr,.str .Qq]) (.call .jJ [.v .iY,.int 6]),.call .qS [.v .iY,.cmp (.v .Nj) [(.eq,.int 0)]],.call .nO [.v .iY]]])],
 .asg (.t [.n .dP,.n .dO]) (.comp (.call .pH [.v .Cp,.v .gW]) (.n .gW) (.v .iC) []),
 .qX [.n .pC,.n .kV] [.call .jJ [.v .iY,.int 4],.cmp (.call .jJ [.v .iY,.int 2]) [(.eq,.int 1)]],
 .gR (.cmp (.v .pC) [(.lt,.int 2)]) [
  .asg (.n .dE) (.gR (.cmp (.v .pC) [(.eq,.int 0)]) (.met (.v .Cp) .jC [.lst [.v .dP,.v .dO]]) (.met (.v .Cp) .Kb [.lst [.v .dP,.v .dO]]))] [
  .asg (.n .dE) (.gR (.cmp (.v .pC) [(.eq,.int 2)]) (.met (.v .Cp) .uH [.v .dP,.v .dO]) (.met (.v .Cp) .jC [.lst [.v .dP,.call .eL [.v .dO]]]))],
 .ex (.met (.v .Cp) .gA [.lst [.gR (.v .kV) (.call .eL [.v .dE]) (.v .dE)]]),
 .for (.n .cK) (.xN (.xN (.v .Cp) .fZ) .sB) [
  .ex (.met (.met (.v .nY) .kQ [.blt .Oi [.bin .add (.tup [.neg (.int 1)]) (.call .yM [.v .cK])],.zE []]) .iI [.v .cK])],
 .for (.n .kN) (.tup [.neg (.int 1),.int 0,.int 1]) [
  .for (.n .tE) (.tup [.neg (.int 1),.int 0]) [
   .asg (.t [.n .mI,.n .Br]) (.comp (.call .mB [.v .gW,.v .kN,.v .tE]) (.n .gW) (.v .iC) []),
   .asg (.n .Nk) (.cmp (.sub (.tup [.and [.v .mI,.v .Br],.or [.v .mI,.v .Br],.cmp (.v .mI) [(.ne,.v .Br)],.and [.v .mI,.not (.v .Br)]]) (.v .pC)) [(.ne,.v .kV)]),
   .gR (.cmp (.call .kH [.xN (.v .Cp) .fZ,.v .nY,.lst [.v .kN,.v .tE]]) [(.ne,.blt .int [.v .Nk])]) [
    .ret (some (.bool false))] []]],
 .ret (some (.bool true))]
noncomputable def CS:List Sx:=[
 .asg (.a (.v .bD) .vB) (.zE []),
 .asg (.a (.v .bD) .sB) (.zE []),
 .asg (.a (.v .bD) .Eo) (.tup [.str .Ve,.none]),
 .asg (.a (.v .bD) .yK) (.tup [])]
noncomputable def LU:List Sx:=[
 .ex (.met (.xN (.v .bD) .vB) .iI [.tup [.v .pG,.v .iH]]),
 .ret (some (.bin .sub (.blt .len [.xN (.v .bD) .vB]) (.int 1)))]
noncomputable def aGs:List Sx:=[
 .ex (.met (.xN (.v .bD) .sB) .iI [.v .cK])]
noncomputable def aGr:List Sx:=[
 .ret (some (.blt .len [.xN (.v .bD) .vB]))]
noncomputable def CP:List Sx:=[
 .ret (some (.sub (.sub (.xN (.v .bD) .vB) (.v .kN)) (.int 1)))]
noncomputable def Om:List Sx:=[
 .asg (.a (.v .bD) .fZ) (.AR),
 .asg (.a (.v .bD) .vC) (.aAv)]
noncomputable def aGu:List Sx:=[
 .asg (.n .eR) (.cmp (.v .Jz) [(.KJ,.xN (.v .bD) .vC)]),
 .gR (.v .eR) [
  .for (.t [.n .dY,.n .cT]) (.v .iH) [
   .ex (.call .gE [.blt .max [.blt .abs [.v .dY],.blt .abs [.v .cT]]])],
  .asg (.s (.xN (.v .bD) .vC) (.v .Jz)) (.met (.xN (.v .bD) .fZ) .tF [.BK (.met (.xN (.v .bD) .fZ) .Xj []),.v .iH])] [],
 .ret (some (.tup [.sub (.xN (.v .bD) .vC) (.v .Jz),.v .eR]))]
noncomputable def SS:List Sx:=[
 .asg (.n .eZ) (.call .lG [.v .dN]),
 .qX [.n .dY,.n .cT] [.sub (.v .eZ) (.int 2),.sub (.v .eZ) (.int 2)],
 .for (.t [.n .kN,.n .mI]) (.sub (.v .eZ) (.int 1)) [
  .asg (.n .tG) (.tup [.bin .mul (.v .mI) (.call .Bq [.met (.xN (.v .bD) .fZ) .jX [.v .kN]]),.bin .mul (.v .mI) (.call .wZ [.met (.xN (.v .bD) .fZ) .jX [.v .kN]])]),
  .qX [.n .dY,.n .cT] [.bin .add (.v .dY) (.blt .DZ [.v .tG]),.bin .add (.v .cT) (.blt .Oi [.v .tG])]],
 .ret (some (.tup [.v .dY,.v .cT]))]
noncomputable def SP:List Sx:=[
 .asg (.n .eZ) (.call .lG [.v .dN]),
 .gR (.and [.cmp (.blt .len [.sub (.v .eZ) (.int 1)]) [(.eq,.int 1)],.cmp (.sub (.sub (.sub (.v .eZ) (.int 1)) (.int 0)) (.int 1)) [(.eq,.int 1)],.cmp (.sub (.v .eZ) (.int 2)) [(.eq,.int 0)]]) [
  .ret (some (.sub (.sub (.sub (.v .eZ) (.int 1)) (.int 0)) (.int 0)))] [],
 .asg (.t [.n .dY,.n .cT]) (.met (.v .bD) .jB [.v .eZ]),
 .asg (.t [.n .kN,.n .eR]) (.met (.v .bD) .sD [.v .eZ,.call .nL [.v .dY,.v .cT]]),
 .gR (.and [.v .eR,.cmp (.sub (.v .eZ) (.int 1)) [(.ne,.tup [])]]) [
  .qX [.n .oN,.n .eO] [.bin .add (.comp (.v .mI) (.t [.n .tE,.n .mI]) (.sub (.v .eZ) (.int 1)) []) (.lst [.neg (.int 1)]),.bin .add (.comp (.v .tE) (.t [.n .tE,.n .mI]) (.sub (.v .eZ) (.int 1)) []) (.lst [.v .kN])],
  .ex (.met (.xN (.v .bD) .fZ) .pE [.tup [.str .mA,.blt .tuple [.v .oN],.blt .tuple [.v .eO],.neg (.sub (.v .eZ) (.int 2))]])] [],
 .ret (some (.v .kN))]
noncomputable def LT:List Sx:=[
 .ret (some (.blt .tuple [.comp (.met (.v .bD) .jV [.v .dP]) (.n .dP) (.v .eO) []]))]
noncomputable def aMb:List Sx:=[
 .qX [.t [.n .dY,.n .cT],.n .eZ] [.met (.v .bD) .jB [.v .dN],.call .lG [.v .dN]],
 .gR (.cmp (.v .mH) [(.eq,.str .kU)]) [
  .gR (.or [.cmp (.v .cT) [(.le,.int 0)],.cmp (.v .dY) [(.gt,.int 0)]]) [
   .ret (some (.cmp (.v .cT) [(.le,.int 0)]))] []] [
  .gR (.or [.cmp (.v .dY) [(.gt,.int 0)],.cmp (.v .cT) [(.lt,.int 0)]]) [
   .ret (some (.cmp (.v .mH) [(.eq,.str .rB)]))] [
   .gR (.cmp (.v .dY) [(.eq,.v .cT)]) [
    .ret (some (.cmp (.v .mH) [(.eq,.str .mA)]))] []]],
 .qX [.n .xC,.n .Br] [.call .yO [.comp (.v .mI) (.t [.n .kN,.n .mI]) (.sub (.v .eZ) (.int 1)) []],.neg (.sub (.v .eZ) (.int 2))],
 .gR (.and [.cmp (.v .mH) [(.ne,.str .kU)],.cmp (.bin .mod (.v .Br) (.v .xC)) [(.ne,.int 0)]]) [
  .ret (some (.cmp (.v .mH) [(.eq,.str .rB)]))] [],
 .ret (some (.tup [.v .mH,.blt .tuple [.comp (.bin .fdiv (.v .mI) (.v .xC)) (.t [.n .kN,.n .mI]) (.sub (.v .eZ) (.int 1)) []],.blt .tuple [.comp (.v .kN) (.t [.n .kN,.n .mI]) (.sub (.v .eZ) (.int 1)) []],.bin .fdiv (.v .Br) (.v .xC)]))]
noncomputable def CK:List Sx:=[
 .asg (.n .cK) (.met (.v .bD) .gW [.v .mH,.v .dN]),
 .gR (.blt .is_bool [.v .cK]) [
  .ret (some (.v .cK))] [],
 .asg (.t [.n .mH,.n .oN,.n .eO,.n .Br]) (.v .cK),
 .gR (.cmp (.v .mH) [(.eq,.str .rB)]) [
  .ret (some (.call .eL [.met (.v .bD) .gG [.str .mA,.v .dN]]))] [],
 .asg (.n .Eg) (.blt .tuple [.comp (.neg (.v .mI)) (.n .mI) (.v .oN) []]),
 .gR (.and [.cmp (.sub (.v .oN) (.int 0)) [(.lt,.int 0)],.cmp (.v .mH) [(.eq,.str .kU)]]) [
  .ret (some (.call .eL [.met (.v .bD) .jO [.tup [.v .mH,.v .Eg,.v .eO,.bin .sub (.neg (.v .Br)) (.int 1)]]]))] [],
 .ret (some (.met (.v .bD) .jO [.gR (.cmp (.sub (.v .oN) (.int 0)) [(.gt,.int 0)]) (.v .cK) (.tup [.v .mH,.v .Eg,.v .eO,.neg (.v .Br)])]))]
noncomputable def Yy:List Sx:=[
 .asg (.t [.n .mH,.n .oN,.n .eO,.n .Br]) (.v .cK),
 .gR (.and [.cmp (.v .oN) [(.eq,.tup [.int 1])],.cmp (.met (.xN (.v .bD) .fZ) .jX [.sub (.v .eO) (.int 0)]) [(.eq,.Nq .xE)]]) [
  .ret (some (.tup [.str .oP,.sub (.v .eO) (.int 0),.and [.cmp (.v .mH) [(.eq,.str .mA)],.cmp (.v .Br) [(.eq,.int 1)]]]))] [],
 .asg (.t [.n .Kw,.n .eR]) (.met (.v .bD) .sD [.tup [.str .Hy,.v .cK],.Nq .xE]),
 .gR (.v .eR) [
  .ex (.met (.xN (.v .bD) .fZ) .pE [.tup [.str .Hy,.v .Kw,.v .cK]])] [],
 .ret (some (.tup [.str .oP,.v .Kw,.bool true]))]
noncomputable def SU:List Sx:=[
 .asg (.n .mV) (.zE []),
 .for (.n .bG) (.v .lZ) [
  .gR (.or [.cmp (.v .bG) [(.eq,.bool false)],.cmp (.call .eL [.v .bG]) [(.Oj,.v .mV)]]) [
   .ret (some (.bool false))] [],
  .gR (.and [.cmp (.v .bG) [(.ne,.bool true)],.cmp (.v .bG) [(.KJ,.v .mV)]]) [
   .ex (.met (.v .mV) .iI [.v .bG])] []],
 .gR (.cmp (.blt .len [.v .mV]) [(.lt,.int 2)]) [
  .ret (some (.gR (.cmp (.v .mV) [(.ne,.lst [])]) (.sub (.v .mV) (.int 0)) (.bool true)))] [],
 .ex (.met (.v .mV) .Ei []),
 .qX [.n .eO,.n .Fk] [.blt .tuple [.comp (.sub (.v .bG) (.int 1)) (.n .bG) (.v .mV) []],.comp (.sub (.v .bG) (.int 2)) (.n .bG) (.v .mV) []],
 .gR (.cmp (.bool true) [(.KJ,.v .Fk)]) [
  .asg (.t [.n .Kw,.n .eR]) (.met (.v .bD) .sD [.tup [.str .AS,.v .eO],.Nq .xE]),
  .gR (.v .eR) [
   .ex (.met (.xN (.v .bD) .fZ) .pE [.tup [.str .AS,.v .eO,.v .Kw]])] [],
  .ret (some (.tup [.str .oP,.v .Kw,.bool false]))] [],
 .asg (.t [.n .Kw,.n .eR]) (.met (.v .bD) .sD [.tup [.str .PB,.blt .tuple [.v .mV]],.Nq .xE]),
 .gR (.and [.v .eR,.cmp (.bool false) [(.KJ,.v .Fk)]]) [
  .ex (.met (.xN (.v .bD) .fZ) .pE [.tup [.str .Vg,.v .eO,.v .Kw]])] [
  .gR (.v .eR) [
   .for (.n .bG) (.v .mV) [
    .ex (.met (.v .bD) .gA [.lst [.tup [.str .oP,.v .Kw,.bool false],.v .bG]])],
   .ex (.met (.v .bD) .gA [.bin .add (.lst [.tup [.str .oP,.v .Kw,.bool true]]) (.comp (.call .eL [.v .bG]) (.n .bG) (.v .mV) [])])] []],
 .ret (some (.tup [.str .oP,.v .Kw,.bool true]))]
noncomputable def ST:List Sx:=[
 .ret (some (.call .eL [.met (.v .bD) .jC [.comp (.call .eL [.v .bG]) (.n .bG) (.v .lZ) []]]))]
noncomputable def SQ:List Sx:=[
 .gR (.blt .is_bool [.v .dP]) [
  .ret (some (.gR (.v .dP) (.call .eL [.v .dO]) (.v .dO)))] [],
 .gR (.blt .is_bool [.v .dO]) [
  .ret (some (.gR (.v .dO) (.call .eL [.v .dP]) (.v .dP)))] [],
 .gR (.cmp (.sub (.v .dP) (.int 1)) [(.eq,.sub (.v .dO) (.int 1))]) [
  .ret (some (.cmp (.sub (.v .dP) (.int 2)) [(.ne,.sub (.v .dO) (.int 2))]))] [],
 .qX [.n .dY,.n .cT] [.blt .min [.sub (.v .dP) (.int 1),.sub (.v .dO) (.int 1)],.blt .max [.sub (.v .dP) (.int 1),.sub (.v .dO) (.int 1)]],
 .asg (.t [.n .Br,.n .eR]) (.met (.v .bD) .sD [.tup [.str .Vd,.v .dY,.v .cT],.Nq .xE]),
 .gR (.v .eR) [
  .ex (.met (.xN (.v .bD) .fZ) .pE [.tup [.str .Vd,.v .dY,.v .cT,.v .Br]])] [],
 .ret (some (.tup [.str .oP,.v .Br,.cmp (.sub (.v .dP) (.int 2)) [(.eq,.sub (.v .dO) (.int 2))]]))]
noncomputable def Td:List Sx:=[
 .gR (.or [.cmp (.bool true) [(.Oj,.v .lZ)],.cmp (.comp (.v .bG) (.n .bG) (.v .lZ) [.and [.cmp (.v .bG) [(.ne,.bool false)],.cmp (.call .eL [.v .bG]) [(.Oj,.v .lZ)]]]) [(.ne,.lst [])]]) [
  .ret none] [],
 .asg (.n .Rl) (.blt .sorted [.comp (.v .bG) (.n .bG) (.v .lZ) [.cmp (.v .bG) [(.ne,.bool false)]]]),
 .qX [.n .HN,.n .Pa] [.comp (.sub (.v .bG) (.int 1)) (.n .bG) (.v .Rl) [.sub (.v .bG) (.int 2)],.comp (.sub (.v .bG) (.int 1)) (.n .bG) (.v .Rl) [.not (.sub (.v .bG) (.int 2))]],
 .ex (.met (.xN (.v .bD) .fZ) .pE [.tup [.str .Aj,.blt .tuple [.blt .oM [.v .HN]],.blt .tuple [.blt .oM [.v .Pa]]]])]
noncomputable def aGv:List Sx:=[
 .gR (.cmp (.xN (.v .bD) .gV) [(.is,.none)]) [
  .ex (.met (.v .bD) .gA [.lst [.v .bG]])] [
  .gR (.cmp (.v .bG) [(.ne,.bool true)]) [
   .ex (.met (.xN (.v .bD) .gV) .iI [.v .bG])] []]]
noncomputable def Uh:List Sx:=[
 .asg (.t [.n .HM,.n .eR]) (.met (.v .bD) .sD [.v .Jz,.v .iH]),
 .gR (.v .eR) [
  .ex (.met (.xN (.v .bD) .fZ) .pE [.bin .add (.v .Jz) (.tup [.v .HM])])] [],
 .ret (some (.tup [.str .Eh,.tup [.tup [.v .HM,.int 1]],.int 0]))]
noncomputable def LY:List Sx:=[
 .gR (.cmp (.met (.v .bD) .jB [.v .dO]) [(.eq,.tup [.int 0,.int 0])]) [
  .ex (.met (.v .bD) .Hz [.bool false]),
  .ret (some (.int 0))] [],
 .gR (.and [.call .pI [.v .dP],.call .pI [.v .dO]]) [
  .ret (some (.call .wX [.v .qA,.blt .int [.v .dP],.blt .int [.v .dO],.int 0]))] [],
 .qX [.n .kN,.n .tE] [.met (.v .bD) .jV [.v .dP],.met (.v .bD) .mW [.v .dO]],
 .qX [.t [.n .dY,.n .cT],.t [.n .Rj,.n .Ox]] [.met (.v .bD) .jB [.v .dP],.met (.v .bD) .jB [.v .dO]],
 .asg (.n .Bp) (.blt .max [.blt .abs [.v .dY],.blt .abs [.v .cT]]),
 .gR (.cmp (.v .qA) [(.eq,.str .xB)]) [
  .ret (some (.met (.v .bD) .jP [.tup [.str .xB,.v .kN,.v .tE],.call .nL [.gR (.and [.cmp (.v .dY) [(.ge,.int 0)],.cmp (.v .Rj) [(.ge,.int 0)]]) (.int 0) (.neg (.v .Bp)),.v .Bp]]))] [],
 .asg (.n .Bp) (.blt .min [.v .Bp,.bin .sub (.blt .max [.blt .abs [.v .Rj],.blt .abs [.v .Ox]]) (.int 1)]),
 .ret (some (.met (.v .bD) .jP [.tup [.str .Ai,.v .kN,.v .tE],.call .nL [.gR (.cmp (.v .dY) [(.ge,.int 0)]) (.int 0) (.neg (.v .Bp)),.gR (.cmp (.v .cT) [(.le,.int 0)]) (.int 0) (.v .Bp)]]))]
noncomputable def Mq:List Sx:=[
 .asg (.n .tE) (.met (.v .bD) .jV [.v .dN]),
 .asg (.n .iH) (.met (.xN (.v .bD) .fZ) .jX [.v .tE]),
 .gR (.not (.call .HO [.v .iH,.int 0])) [
  .ret (some (.v .tE))] [],
 .asg (.n .bG) (.met (.v .bD) .gG [.str .rB,.v .dN]),
 .ex (.met (.v .bD) .Hz [.v .bG]),
 .ret (some (.gR (.or [.cmp (.xN (.v .bD) .gV) [(.is,.none)],.cmp (.v .bG) [(.eq,.bool true)]]) (.v .tE) (.met (.v .bD) .pD [.v .tE,.v .bG,.call .Fj [.v .iH,.int 0]])))]
noncomputable def FK:List Sx:=[
 .asg (.t [.n .HM,.n .eR]) (.met (.v .bD) .sD [.tup [.str .Ow,.v .tE,.v .bG,.v .iH],.v .iH]),
 .gR (.v .eR) [
  .ex (.met (.xN (.v .bD) .fZ) .pE [.tup [.str .AU,.met (.v .bD) .jV [.v .bG],.tup [.str .mA,.tup [.int 1,.neg (.int 1)],.tup [.v .HM,.v .tE],.int 0]]]),
  .ex (.met (.xN (.v .bD) .fZ) .pE [.tup [.str .AU,.met (.v .bD) .jV [.call .eL [.v .bG]],.tup [.str .mA,.tup [.int 1],.tup [.v .HM],.call .Bq [.v .iH]]]])] [],
 .ret (some (.v .HM))]
noncomputable def LX:List Sx:=[
 .qX [.n .nN,.n .iC] [.int 0,.zE []],
 .gR (.cmp (.blt .len [.v .Md]) [(.ne,.blt .len [.sub (.v .dN) (.int 0)])]) [
  .bad] [],
 .for (.t [.t [.n .dY,.n .cT],.n .qN]) (.zip (.sub (.v .dN) (.int 0)) (.v .Md)) [
  .asg (.n .nN) (.call .pF [.call .pF [.v .qN,.v .dY,.neg (.int 1)],.v .nN,.bin .add (.bin .sub (.v .cT) (.v .dY)) (.int 1)]),
  .ex (.met (.v .iC) .uI [.lst [.call .pF [.v .dY,.v .qN,.neg (.int 1)],.call .pF [.v .qN,.v .cT,.neg (.int 1)]]])],
 .gR (.or [.cmp (.sub (.v .dN) (.int 1)) [(.eq,.lst [])],.cmp (.bool false) [(.Oj,.comp (.met (.v .bD) .gW [.str .kU,.v .dP]) (.n .dP) (.v .iC) [])]]) [
  .ex (.met (.v .bD) .Hz [.bool false]),
  .ret (some (.gR (.cmp (.sub (.v .dN) (.int 1)) [(.ne,.lst [])]) (.sub (.sub (.v .dN) (.int 1)) (.int 0)) (.int 0)))] [],
 .asg (.n .bG) (.met (.v .bD) .Rh [.v .iC]),
 .gR (.blt .Eu [.v .nN]) [
  .ex (.met (.v .bD) .Hz [.cmp (.int 0) [(.le,.v .nN),(.lt,.blt .len [.sub (.v .dN) (.int 1)])]]),
  .ret (some (.sub (.sub (.v .dN) (.int 1)) (.gR (.cmp (.int 0) [(.le,.v .nN),(.lt,.blt .len [.sub (.v .dN) (.int 1)])]) (.v .nN) (.int 0))))] [],
 .asg (.n .qN) (.met (.v .bD) .jV [.call .pF [.v .nN,.int 1,.int 1]]),
 .gR (.cmp (.v .bG) [(.ne,.bool true)]) [
  .asg (.n .qN) (.met (.v .bD) .pD [.v .qN,.v .bG,.call .nL [.int 1,.blt .len [.sub (.v .dN) (.int 1)]]])] [],
 .ret (some (.met (.v .bD) .rE [.v .qN,.sub (.v .dN) (.int 1)]))]
noncomputable def SO:List Sx:=[
 .gR (.cmp (.xN (.v .bD) .gV) [(.is,.none)]) [
  .for (.n .dP) (.v .iC) [
   .ex (.met (.v .bD) .Ua [.str .kU,.v .dP])],
  .ret (some (.bool true))] [],
 .asg (.n .bG) (.met (.v .bD) .jC [.comp (.met (.v .bD) .gG [.str .kU,.v .dP]) (.n .dP) (.v .iC) []]),
 .ex (.met (.v .bD) .Hz [.v .bG]),
 .ret (some (.v .bG))]
noncomputable def CR:List Sx:=[
 .gR (.cmp (.comp (.v .dP) (.n .dP) (.v .eO) [.not (.call .pI [.v .dP])]) [(.eq,.lst [])]) [
  .asg (.n .lA) (.blt .tuple [.comp (.blt .int [.v .dP]) (.n .dP) (.v .eO) []]),
  .asg (.n .dE) (.met (.v .bD) .jP [.tup [.str .pQ,.v .qN,.v .lA],.call .tQ [.v .lA]])] [
  .asg (.n .tG) (.comp (.met (.v .bD) .jB [.v .dP]) (.n .dP) (.v .eO) []),
  .asg (.n .iH) (.call .nL [.blt .DZ [.comp (.v .dY) (.t [.n .dY,.n .cT]) (.v .tG) []],.blt .Oi [.comp (.v .cT) (.t [.n .dY,.n .cT]) (.v .tG) []]]),
  .asg (.n .dE) (.met (.v .bD) .jP [.tup [.str .kA,.v .qN,.met (.v .bD) .Ma [.v .eO]],.v .iH])],
 .ret (some (.gR (.cmp (.comp (.v .dP) (.n .dP) (.v .eO) [.not (.call .wY [.v .dP])]) [(.eq,.lst [])]) (.tup [.str .oP,.sub (.sub (.sub (.v .dE) (.int 1)) (.int 0)) (.int 0),.bool true]) (.v .dE)))]
noncomputable def ZL:List Sx:=[
 .gR (.and [.call .wY [.v .dP],.call .wY [.v .dO]]) [
  .ret (some (.call .eL [.met (.v .bD) .uH [.v .dP,.v .dO]]))] [],
 .ret (some (.met (.v .bD) .gG [.str .mA,.call .pF [.v .dP,.v .dO,.neg (.int 1)]]))]
noncomputable def FX:List Sx:=[
 .gR (.cmp (.v .qA) [(.Oj,.tup [.str .s_eq,.str .Qo])]) [
  .ret (some (.gR (.cmp (.v .qA) [(.eq,.str .s_eq)]) (.met (.v .bD) .Oy [.v .dP,.v .dO]) (.call .eL [.met (.v .bD) .Oy [.v .dP,.v .dO]])))] [],
 .gR (.cmp (.v .qA) [(.Oj,.tup [.str .Qq,.str .Qr])]) [
  .ret (some (.call .eL [.met (.v .bD) .tH [.sub (.Nq .Ro) (.v .qA),.v .dP,.v .dO]]))] [],
 .ret (some (.met (.v .bD) .gG [.str .kU,.call .pF [.call .pF [.v .dP,.v .dO,.neg (.int 1)],.gR (.cmp (.v .qA) [(.eq,.str .Qp)]) (.int 1) (.int 0),.int 1]]))]
noncomputable def Sk:List (Option Cl×Nm×List Nm×List Nm×List Sx):=[
 (none,.nL,[.dY,.cT],[],FM),
 (none,.sC,[.dE,.dY,.cT],[],Yz),
 (none,.tQ,[.lA],[.dE,.Bo],Uj),
 (none,.Bq,[.Vf],[],ZJ),
 (none,.wZ,[.Vf],[],FV),
 (none,.Ek,[.Vf,.Bo],[.dY,.cT],CL),
 (none,.HO,[.Vf,.Bo],[],aMd),
 (none,.Xi,[.Vf,.Zi],[],ZI),
 (none,.Mf,[.Vf,.Zi],[],LW),
 (none,.Fj,[.Vf,.Bo],[],LS),
 (none,.Ia,[.dN],[],FU),
 (none,.nM,[.mI,.Kw,.Mb],[.dE],FN),
 (none,.gE,[.Ri],[],Mp),
 (none,.wX,[.qA,.mI,.Kw,.Mb],[],FL),
 (none,.rC,[.dN,.mH],[],LV),
 (none,.wY,[.dN],[],FR),
 (none,.pI,[.dN],[],FT),
 (none,.lG,[.dN],[],SR),
 (none,.pF,[.dP,.dO,.xA],[.gU,.qT,.kN,.mI,.dE],aGt),
 (none,.eL,[.bG],[],FW),
 (none,.yO,[.lA],[.dE,.mI,.jW],CQ),
 (none,.jJ,[.iY,.El],[.Rk],FP),
 (none,.nO,[.iY],[.pC],FQ),
 (none,.qS,[.iY,.Fm],[.pC,.Ka,.Ej],FO),
 (none,.nP,[.Cp,.nW],[.gU],Za),
 (none,.cV,[.nW,.kN,.tE],[.gU,.eO,.yL],Te),
 (none,.mB,[.gW,.kN,.tE],[.dP,.dO,.mI,.Br],CO),
 (none,.pH,[.Cp,.gW],[.dE,.Xl],CM),
 (none,.yM,[.cK],[],CN),
 (none,.dB,[.cK,.Bo],[.pG,.eZ,.El,.nN,.kN,.tE,.HM,.jW],Ui),
 (none,.kH,[.fZ,.nY,.Fp],[.Oz,.iC,.dP,.yN,.gW,.dY,.cT,.qM],Ol),
 (none,.En,[.Ah],[.iY,.Cp,.nY,.xD,.iC,.Nj,.dP,.dO,.pC,.kV,.dE,.cK,.kN,.tE,.mI,.Br,.Nk],aMc),
 ((some .flat),.kC,[.bD],[],CS),
 ((some .flat),.tF,[.bD,.pG,.iH],[],LU),
 ((some .flat),.pE,[.bD,.cK],[],aGs),
 ((some .flat),.Xj,[.bD],[],aGr),
 ((some .flat),.jX,[.bD,.kN],[],CP),
 ((some .KW),.kC,[.bD],[],Om),
 ((some .func),.sD,[.bD,.Jz,.iH],[.eR,.dY,.cT],aGu),
 ((some .func),.jB,[.bD,.dN],[.eZ,.dY,.cT,.kN,.mI,.tG],SS),
 ((some .func),.jV,[.bD,.dN],[.eZ,.dY,.cT,.kN,.eR,.oN,.eO],SP),
 ((some .func),.Ma,[.bD,.eO],[],LT),
 ((some .func),.gW,[.bD,.mH,.dN],[.dY,.cT,.eZ,.xC,.Br],aMb),
 ((some .func),.gG,[.bD,.mH,.dN],[.cK,.oN,.eO,.Br,.Eg],CK),
 ((some .func),.jO,[.bD,.cK],[.mH,.oN,.eO,.Br,.Kw,.eR],Yy),
 ((some .func),.jC,[.bD,.lZ],[.mV,.bG,.eO,.Fk,.Kw,.eR],SU),
 ((some .func),.Kb,[.bD,.lZ],[],ST),
 ((some .func),.uH,[.bD,.dP,.dO],[.dY,.cT,.Br,.eR],SQ),
 ((some .func),.gA,[.bD,.lZ],[.Rl,.HN,.Pa],Td),
 ((some .func),.Hz,[.bD,.bG],[],aGv),
 ((some .func),.jP,[.bD,.Jz,.iH],[.HM,.eR],Uh),
 ((some .func),.Fo,[.bD,.qA,.dP,.dO],[.kN,.tE,.dY,.cT,.Rj,.Ox,.Bp],LY),
 ((some .func),.mW,[.bD,.dN],[.tE,.iH,.bG],Mq),
 ((some .func),.pD,[.bD,.tE,.bG,.iH],[.HM,.eR],FK),
 ((some .func),.kA,[.bD,.dN,.Md,.Mb],[.nN,.iC,.dY,.cT,.qN,.bG],LX),
 ((some .func),.Rh,[.bD,.iC],[.dP,.bG],SO),
 ((some .func),.rE,[.bD,.qN,.eO],[.lA,.dE,.tG,.iH],CR),
 ((some .func),.Oy,[.bD,.dP,.dO],[],ZL),
 ((some .func),.tH,[.bD,.qA,.dP,.dO],[],FX)]
noncomputable def fnOf (c:Option Cl) (f:Nm):Option (List Nm×List Nm×List Sx):=(Sk.find? λp=>decide (p.1=c)&&decide (p.2.1=f)).map (·.2.2)
noncomputable def VM (f:Fl):V:=match f with
 | .ret v=>v
 | .next=> .d .none
noncomputable def left (f:Nm) (n:Nat) (s:St):St:={objs:=if f= .kC then s.objs else s.objs.take n,next:=s.next}
noncomputable def Jn (X:Dg) (c:Option Cl) (f:Nm) (args:List V):M V:=do
 let p<-fI (fnOf c f)
 dK (decide (p.1.length=args.length))
 λs=>(X.B p.2.2 (p.1.zip args++p.2.1.map λx=>(x,V.un)) s).map λq=>(VM q.1.1,left f s.objs.length q.2)
noncomputable def ev (n:Nat):Dg:=match n with
 | 0=>⟨λY Y=>fail,λY Y Y=>fail,λY Y=>fail⟩
 | n+1=>⟨hY (ev n),Jn (ev n),Jo (ev n)⟩
end
open PySem PySem.W PySem.Calls PyProof.Rows
@[elab_as_elim] theorem Nd.{u} {T:Sort u} {P:T->Prop} {a b:T} (h:a=b) (p:P b):P a:=h▸p
@[elab_as_elim] theorem aQj.{u} {T:Sort u} {P:T->Prop} {a b:T} (h:a=b) (p:P a):P b:=h▸p
local macro_rules
 | `(tactic| rw [$r])=>do
  match r with
  | `(Lean.Parser.Tactic.rwRule| $h:term)=> `(tactic| (first | refine Nd $h ?_ | rewrite [$h:term]);try (with_reducible rfl))
  | `(Lean.Parser.Tactic.rwRule| <- $h:term)=> `(tactic| (first | refine aQj $h ?_ | rewrite [<- $h:term]);try (with_reducible rfl))
  | _=>Lean.Macro.throwUnsupported
 | `(tactic| rw [$r,$rs,*])=> `(tactic| (rw [$r];rw [$rs,*]))
noncomputable def Sq (h:Heap) (P:Addr->Prop) (c:String) (a:Addr) (vs:Array aG):Prop:=P a/\∃o n,h.get? a=some o/\o.cls= .type c/\o.data= .seq vs n/\(c="tuple"->o.dict=none)
noncomputable def Mr (h:Heap) (P:Addr->Prop) (c:String) (n:Nat) (D:List aG->Prop) (w:aG):Prop:=n<=bW/\∃a vs,w= .ref a/\Sq h P c a vs/\D vs.toList
noncomputable def aIa (D:aG->Prop) (R:List aG->Prop) (ws:List aG):Prop:=∃w r,ws=w::r/\D w/\R r
section
variable (h:Heap) (P:Addr->Prop)
mutual
noncomputable def Dt:aE->aG->Prop
 | .none,w=>w= .none
 | .bool b,w=>w= .bool b
 | .int i,w=>∃t,w= .int i t
 | .str x,w=>(nF x=true/\x.cps.size<=bW)/\∃t,w= .str x t
 | .list xs,w=>Mr h P "list" xs.length (jM xs) w
 | .tuple xs,w=>Mr h P "tuple" xs.length (jM xs) w
 | .dict _,_=>False
noncomputable def jM:List aE->List aG->Prop
 | [],ws=>ws=[]
 | x::xs,ws=>aIa (Dt x) (jM xs) ws
end
end
theorem wC {M:aE->Prop} {N:List aE->Prop} (none:M .none) (bool:∀b,M (.bool b)) (int:∀i,M (.int i)) (str:∀x,M (.str x)) (list:∀xs,N xs->M (.list xs)) (tuple:∀xs,N xs->M (.tuple xs)) (dict:∀k,M (.dict k))
  (nil:N []) (cons:∀x xs,M x->N xs->N (x::xs)):(∀x,M x)/\∀xs,N xs:=
 have h:∀x,M x:=PyData.rec (motive_1:=M) (motive_2:=N) (motive_3:=λY=>True) (motive_4:=λY=>True) none bool int str list tuple (λk Y=>dict k) nil cons trivial (λY Y Y Y=>trivial) (λY Y Y Y=>trivial)
 ⟨h,λxs=>dR nil (λx xs i=>cons x xs (h x) i) xs⟩
section
variable {h h':Heap} {P P':Addr->Prop} {D D':List aG->Prop} {c:String} {n:Nat} {w:aG} {ws vs:List aG} {xs ys:List aE} {x:aE}
theorem Mr.elim {G:Prop} (r:Mr h P c n D w) (k:∀a vs,n<=bW->w= .ref a->Sq h P c a vs->D vs.toList->G):G:=let ⟨z,a,vs,e,s,d⟩:=r;k a vs z e s d
theorem Sq.elim {G:Prop} {a:Addr} {ar:Array aG} (r:Sq h P c a ar) (k:∀o n,P a->h.get? a=some o->o.cls= .type c->o.data= .seq ar n->(c="tuple"->o.dict=none)->G):G:=let ⟨p,o,n,g,e,d,b⟩:=r;k o n p g e d b
theorem aIa.elim {G:Prop} {E:aG->Prop} (r:aIa E D ws) (k:∀w r,ws=w::r->E w->D r->G):G:=let ⟨w,r,e,a,b⟩:=r;k w r e a b
theorem jM.elim {G:Prop} (r:jM h P (x::xs) ws) (k:∀w r,ws=w::r->Dt h P x w->jM h P xs r->G):G:=aIa.elim r k
theorem jM.cons {r:List aG} (a:Dt h P x w) (b:jM h P xs r):jM h P (x::xs) (w::r):=⟨w,r,rfl,a,b⟩
theorem Sq.mono {a:Addr} {ar:Array aG} (k:∀o,P a->h.get? a=some o->P' a/\h'.get? a=some o) (r:Sq h P c a ar):Sq h' P' c a ar:=r.elim λo n p g e d b=>⟨(k o p g).1,o,n,(k o p g).2,e,d,b⟩
theorem Mr.mono (k:∀a o,P a->h.get? a=some o->P' a/\h'.get? a=some o) (d:∀ws,D ws->D' ws) (r:Mr h P c n D w):Mr h' P' c n D' w:=r.elim λa vs z e s q=>⟨z,a,vs,e,s.mono (k a),d _ q⟩
theorem Ki (k:∀a o,P a->h.get? a=some o->P' a/\h'.get? a=some o):(∀x w,Dt h P x w->Dt h' P' x w)/\∀xs ws,jM h P xs ws->jM h' P' xs ws:=wC (λY r=>r) (λY Y r=>r) (λY Y r=>r) (λY Y r=>r) (λY i Y=>Mr.mono k i) (λY i Y=>Mr.mono k i) (λY Y r=>r) (λY r=>r) (λY Y i j Y r=>r.elim λY Y e a b=>e▸jM.cons (i _ a) (j _ b))
theorem jM.len:jM h P xs ws->ws.length=xs.length:=dR (motive:=λxs=>∀ws,jM h P xs ws->ws.length=xs.length) (λY r=>congrArg oW r) (λY Y i Y r=>r.elim λY Y e Y b=>e▸congrArg (· +1) (i _ b)) xs ws
theorem jM.app (r:jM h P xs ws) (b:jM h P ys vs):jM h P (xs++ys) (ws++vs):=dR (motive:=λxs=>∀ws,jM h P xs ws->jM h P (xs++ys) (ws++vs)) (λws r=>(show ws=[] from r)▸b) (λY Y i Y r=>r.elim λY Y e a b=>e▸jM.cons a (i _ b)) xs ws r
theorem jM.drop:∀ (n:Nat) {xs:List aE} {ws:List aG},jM h P xs ws->jM h P (xs.drop n) (ws.drop n)
 | 0,_,_,r=>r
 | n+1,xs,ws,r=>by
  cases xs with
  | nil=>rw [show ws=[] from r];exact rfl
  | cons x xs=>exact r.elim λY Y e Y b=>e▸b.drop n
theorem jM.get {i:Nat} (r:jM h P xs ws) (e:xs[i]? =some x):∃w,ws[i]? =some w/\Dt h P x w:=by
 have d:=r.drop i
 rw [List.drop_eq_getElem?_toList_append,e] at d
 exact d.elim λw q e' a Y=>⟨w,by rw [<-List.head?_drop,e'];rfl,a⟩
theorem jM.take:∀ (n:Nat) {xs:List aE} {ws:List aG},jM h P xs ws->jM h P (xs.take n) (ws.take n)
 | 0,_,_,_=>rfl
 | n+1,xs,ws,r=>by
  cases xs with
  | nil=>rw [show ws=[] from r];exact rfl
  | cons x xs=>exact r.elim λY Y e a b=>e▸jM.cons a (b.take n)
theorem jM.one (d:Dt h P x w):jM h P [x] [w]:=jM.cons d rfl
theorem nS:(∀x w,Dt h P x w->∃as,Reads h w x as/\(∀a∈as,P a)/\x.canLay0=true)/\∀xs ws,jM h P xs ws->∃as,ReadsAll h ws xs as/\(∀a∈as,P a)/\PyData.canLayAll0 xs=true:=
 have n:∀a∈([]:List Addr),P a:=λY h=>(nomatch h)
 wC (λY r=>⟨[],r▸ .none,n,rfl⟩) (λY Y r=>⟨[],r▸ .bool _,n,rfl⟩) (λY Y r=>r.elim λY e=>⟨[],e▸ .int _ _,n,rfl⟩) (λY Y r=>r.2.elim λY e=>⟨[],e▸ .str _ _,n,r.1.1⟩)
  (λY i Y r=>r.elim λa Y Y e s d=>s.elim λY Y p g c q Y=>(i _ d).elim λas k=>⟨a::as,e▸ .list g c q k.1,λY hb=>(aJ.mp hb).elim (λe=>e▸p) (k.2.1 _),k.2.2⟩)
  (λY i Y r=>r.elim λa Y Y e s d=>s.elim λY Y p g c q Y=>(i _ d).elim λas k=>⟨as,e▸ .tuple g c q k.1,k.2⟩)
  (λY Y r=>r.elim) (λY r=>⟨[],r▸ .nil,n,rfl⟩)
  (λY Y i j Y r=>r.elim λY Y e a b=>(i _ a).elim λas k=>(j _ b).elim λbs l=>⟨as++bs,e▸ .cons k.1 l.1,λY hb=>(aV.mp hb).elim (k.2.1 _) (l.2.1 _),aM.mpr ⟨k.2.2,l.2.2⟩⟩)
end
mutual
noncomputable def norm:aE->aE
 | .bool b=> .int (if b then 1 else 0)
 | .tuple xs=> .tuple (Nh xs)
 | .none=> .none
 | .int i=> .int i
 | .str x=> .str x
 | .list l=> .list l
 | .dict l=> .dict l
noncomputable def Nh:List aE->List aE
 | []=>[]
 | x::xs=>norm x::Nh xs
end
theorem RE:(∀x y:aE,Gk x=true->Gk y=true->(dC x y=true↔norm x=norm y))/\∀xs ys:List aE,Gy xs=true->Gy ys=true->(qD xs ys=true↔Nh xs=Nh ys):=by
 have ti:∀a b:Int,(a==b)=true↔mE a= .int b:=λa b=>⟨λe=>congrArg mE (beq_iff_eq.mp e),λe=>beq_iff_eq.mpr (Pu e)⟩
 refine wC (λY h=>nomatch h) (λb y Y k=> ?_) (λi y Y k=> ?_) (λi y Y k=> ?_) (λY Y Y h=>nomatch h) (λxs ih y hx k=> ?_) (λY Y h=>nomatch h) (λy Y Y=> ?_) (λx xs i j y hx hy=> ?_)
 ·cases y with
  | bool c=>cases b<;>cases c<;>first | exact ⟨λY=>rfl,λY=>rfl⟩ | exact ⟨(nomatch ·),λe=>absurd (Pu e) (by decide)⟩
  | int j=>exact ti _ _
  | str _=>exact ⟨(nomatch ·),(nomatch ·)⟩
  | tuple _=>exact ⟨(nomatch ·),(nomatch ·)⟩
  | _=>cases k
 ·cases y with
  | bool c=>exact ti _ _
  | int j=>exact ti _ _
  | str _=>exact ⟨(nomatch ·),(nomatch ·)⟩
  | tuple _=>exact ⟨(nomatch ·),(nomatch ·)⟩
  | _=>cases k
 ·cases y with
  | str j=>exact ⟨λe=>congrArg Pt (beq_iff_eq.mp (show (i==j)=true from e)),λe=>(beq_iff_eq.mpr (PyData.str.inj e):(i==j)=true)⟩
  | int _=>exact ⟨(nomatch ·),(nomatch ·)⟩
  | bool _=>exact ⟨(nomatch ·),(nomatch ·)⟩
  | tuple _=>exact ⟨(nomatch ·),(nomatch ·)⟩
  | _=>cases k
 ·cases y with
  | tuple ys=>exact (ih ys hx k).trans ⟨congrArg _,PyData.tuple.inj⟩
  | int _=>exact ⟨(nomatch ·),(nomatch ·)⟩
  | str _=>exact ⟨(nomatch ·),(nomatch ·)⟩
  | bool _=>exact ⟨(nomatch ·),(nomatch ·)⟩
  | _=>cases k
 ·cases y with
  | nil=>exact ⟨λY=>rfl,λY=>rfl⟩
  | cons _ _=>exact ⟨(nomatch ·),(nomatch ·)⟩
 ·cases y with
  | nil=>exact ⟨(nomatch ·),(nomatch ·)⟩
  | cons y ys=>
   have hx:=aM.mp hx
   have hy:=aM.mp hy
   refine (aM.trans ⟨λe=> ?_,λe=> ?_⟩:(dC x y&&qD xs ys)=true↔norm x::Nh xs=norm y::Nh ys)
   ·rw [(i y hx.1 hy.1).mp e.1,(j ys hx.2 hy.2).mp e.2]
   ·exact ⟨(i y hx.1 hy.1).mpr (fR e).1,(j ys hx.2 hy.2).mpr (fR e).2⟩
section
variable (w₀:Mu)
mutual
noncomputable def BG:aE->Int
 | .int i=>hashInt i
 | .bool b=>hashInt (if b then 1 else 0)
 | .str x=>hashStr w₀ x
 | .tuple xs=>reduceHash (pS (Si xs))
 | .none=>0
 | .list _=>0
 | .dict _=>0
noncomputable def Si:List aE->List Int
 | []=>[]
 | x::xs=>BG x::Si xs
end
mutual
noncomputable def Ig:aE->Nat
 | .tuple xs=>By xs+1
 | .none=>1
 | .int _=>1
 | .bool _=>1
 | .str _=>1
 | .list _=>1
 | .dict _=>1
noncomputable def By:List aE->Nat
 | []=>0
 | x::xs=>Ig x+By xs
end
theorem Vp:(∀x:aE,BG w₀ (norm x)=BG w₀ x/\Ig (norm x)=Ig x)/\∀xs,Si w₀ (Nh xs)=Si w₀ xs/\By (Nh xs)=By xs:=
 wC ⟨rfl,rfl⟩ (λY=>⟨rfl,rfl⟩) (λY=>⟨rfl,rfl⟩) (λY=>⟨rfl,rfl⟩) (λY Y=>⟨rfl,rfl⟩) (λxs i=>⟨congrArg (λl=>reduceHash (pS l)) i.1,congrArg (· +1) i.2⟩) (λY=>⟨rfl,rfl⟩) ⟨rfl,rfl⟩
  λx xs i j=>⟨(congr (congrArg List.cons i.1) j.1:_::_=_),(congr (congrArg Nat.add i.2) j.2:Nat.add _ _=_)⟩
end
section
variable {prog:tO} {w:Mu} {A:dT} {E:aG->aK->Prop} {s:aK}
abbrev Ar:Addr->Prop:=λY=>True
theorem AK {b:Bool} {Q:Int->aK->Prop} (h:Q (hashInt (if b then 1 else 0)) {s with toks:=s.toks+1}):
  aO (model prog w) A (pyHash (.bool b)) Q E s:=by
 have hT:s.TypeIs (.bool b) "bool":=rfl
 have hr:=rawHash_range (if b then 1 else 0)
 unfold pyHash
 refine aA ?_
 rw [cRoomFor,if_neg (by rw [show [Aw b].any Value.onHeap=false from rfl];exact cP)];refine aH ?_
 refine aA (iT hT sV.lookup ?_)
 show aO _ _ (if (some (yT "int.__hash__")==some jD)=true then _ else _) Q E s
 rw [if_neg (by rw [zK];exact cP)]
 refine aA (iT hT sV.lookup ?_)
 show aO _ _ (tU (.bool b) "__hash__" _>>=_) Q E s
 refine aA (nV hT sV
  (fO sV hT F.entry_int_hash ?_ (F.args_int_hash_1 _)))
 rw [show Builtin.«int.__hash__» ⟨[.bool b],[]⟩=(do ret (<-mkInt (rawHash (if b then 1 else 0)))) by cases b<;>rfl]
 refine wpAny_ret_mkInt ?_
 show aO _ _ (if (decide (-(2:Int)^63<=rawHash (if b then 1 else 0))&&decide (rawHash (if b then 1 else 0)<2^63))=true then _ else _) Q E _
 rw [if_pos (by rw [decide_eq_true hr.1,decide_eq_true hr.2];rfl)]
 exact aH h
theorem QM {x:Int} {Q:Int->aK->Prop} (h:Q (reduceHash x) s):aO (model prog w) A (pyHashByItsType.reduced x) Q E s:=by
 unfold reduceHash at h
 show aO _ _ (if (decide (-(2:Int)^63<=x)&&decide (x<2^63))=true then _ else _) Q E _
 split at h
 ·rename_i hx;rw [if_pos hx];exact aH h
 ·rename_i hx;rw [if_neg hx];exact aA (nE (aH h))
theorem AJ:(∀ (x:aE) (A:dT) (E:aG->aK->Prop) (s:aK) (v:aG) (Q:Int->aK->Prop) (n:Nat),x.depth<=n->Gk x=true->Dt s.heap Ar x v->A.units+n<cLine->
  Q (BG w x) {s with toks:=s.toks+Ig x}->aO (model prog w) A (pyHash v) Q E s)/\∀ (xs:List aE) (A:dT) (E:aG->aK->Prop) (s:aK) (vs:List aG) (b:Array Int) (Q:Array Int->aK->Prop) (n:Nat),uO xs<=n->Gy xs=true->jM s.heap Ar xs vs->A.units+n<cLine->
  (∀b',b'.toList=b.toList++Si w xs->Q b' {s with toks:=s.toks+By xs})->aO (model prog w) A (forIn vs b λx r=>do let h<-pyHash x;pure (hW (r.push h))) Q E s:=by
 refine wC (λY Y Y Y Y Y Y k=>nomatch k) (λb A E s v Q n Y Y r Y h=> ?_) (λb A E s v Q n Y Y r Y h=> ?_) (λb A E s v Q n Y Y r Y h=> ?_) (λY Y Y Y Y Y Y Y Y k=>nomatch k) (λxs i A E s v Q n d k r u h=> ?_) (λY Y Y Y Y Y Y Y k=>nomatch k) (λA E s vs b Q n Y Y r Y h=> ?_) λx xs i j A E s vs b Q n d k r u h=> ?_
 ·rw [show v=_ from r];exact AK h
 ·exact r.elim λt e=>e▸wpAny_pyHash_int h
 ·exact r.2.elim λt e=>e▸wpAny_pyHash_str h
 ·refine Mr.elim r λa vs z e sq ds=>sq.elim λo m Y ho hc hda Y=> ?_
  rw [e]
  cases n with
  | zero=>exact nomatch d
  | succ n=>
  have hT:s.TypeIs (.ref a) "tuple":=⟨o,ho,hc⟩
  have u1:A.in1.units+n<cLine:=by rw [show A.in1.units+n=A.units+(n+1) from by show A.units+1+n=_;rw [bL,dQ 1]];exact u
  unfold pyHash
  refine aA (wpAny_cRoomFor_or (.inr (aX (aS _ _) u)) ?_)
  refine aA (iT hT rQ.lookup ?_)
  show aO _ _ (if (some (yT "tuple.__hash__")==some jD)=true then _ else _) Q E s
  rw [if_neg (by rw [zK];exact cP)]
  refine aA (iT hT rQ.lookup ?_)
  show aO _ _ (tU (.ref a) "__hash__" _>>=_) Q E s
  refine aA (nV hT rQ (fO rQ hT F.entry_tuple_hash ?_ (F.args_tuple_hash_1 _)))
  show aO _ _ (Builtin.Tuple.tupleItemsOf (.ref a)>>=_) _ _ s
  refine aA (wpAny_tupleItemsOf ho hda (aA ?_))
  rw [<-Hn]
  refine i A.in1 _ s vs.toList #[] _ n (iM d) k ds u1 λb' hb=> ?_
  show aO _ _ (retInt (pS b'.toList)) _ _ _
  rw [hb]
  exact wpAny_ret_mkInt (QM h)
 ·rw [show vs=[] from r];exact aH (h b (cN _).symm)
 ·refine aIa.elim r λw r e q ds=> ?_
  have k:=aM.mp k
  rw [e,kE]
  refine aA (aA (i A _ s w _ n (aB (Nw _ _) d) k.1 q u (aH ?_)))
  refine j A E {s with toks:=s.toks+Ig x} r _ Q n (aB (La _ _) d) k.2 ds u λb' hb=> ?_
  have:=h b' (by rw [hb,lW,bU];rfl)
  rw [show By (x::xs)=Ig x+By xs from rfl,<-bL] at this
  exact this
end
section
variable {prog:tO} {w:Mu} {A:dT} {E:aG->aK->Prop} {s:aK}
theorem DU:(∀ (x:aE) (A:dT) (E:aG->aK->Prop) (s:aK) (v:aG) (Q:Bool->aK->Prop) (n:Nat),x.depth<=n->Gk x=true->Dt s.heap Ar x v->Q true s->aO (model prog w) A (eqIsQuiet n v) Q E s)/\
  ∀ (xs:List aE) (A:dT) (E:aG->aK->Prop) (s:aK) (vs:List aG) (Q:Option Bool×PUnit->aK->Prop) (n:Nat),uO xs<=n->Gy xs=true->jM s.heap Ar xs vs->(∀r,r.1=none->Q r s)->
   aO (model prog w) A (forIn vs (none,PUnit.unit) λx r=>do
    let q<-eqIsQuiet n x
    if (!q)=true then pure (ForInStep.done (some false,r.2)) else pure (hW (none,r.2))) Q E s:=by
 refine wC (λY Y Y Y Y Y Y k=>nomatch k) (λb A E s v Q n Y Y r h=> ?_) (λb A E s v Q n Y Y r h=> ?_) (λb A E s v Q n Y Y r h=> ?_) (λY Y Y Y Y Y Y Y Y k=>nomatch k) (λxs i A E s v Q n d k r h=> ?_) (λY Y Y Y Y Y Y Y k=>nomatch k) (λA E s vs Q n Y Y r h=> ?_) λx xs i j A E s vs Q n d k r h=> ?_
 ·rw [show v=_ from r];cases n<;>exact aH h
 ·refine r.elim λt e=> ?_
  rw [e];cases n<;>exact aH h
 ·refine r.2.elim λt e=> ?_
  rw [e];cases n<;>exact aH h
 ·refine Mr.elim r λa vs z e sq ds=>sq.elim λo m Y ho hc hda Y=> ?_
  rw [e]
  cases n with
  | zero=>exact nomatch d
  | succ n=>
  have hT:s.TypeIs (.ref a) "tuple":=⟨o,ho,hc⟩
  unfold eqIsQuiet
  refine aA (iT hT F.slot_tuple_eq.lookup ?_)
  show aO _ _ (isInstance (.ref a) (.type "tuple")>>=_) _ _ s
  refine aA (mN hT isSubtype_tuple_tuple (aA (jR ho hda (aA ?_))))
  show aO _ _ (forIn vs _ _) _ _ s
  rw [<-Hn]
  refine i A _ s vs.toList _ n (iM d) k ds λr hr=> ?_
  cases r with | mk r _=>cases hr;exact aH h
 ·rw [show vs=[] from r];exact aH (h _ rfl)
 ·refine aIa.elim r λw r e q ds=> ?_
  have k:=aM.mp k
  rw [e,kE]
  exact aA (aA (i A _ s w _ n (aB (Nw _ _) d) k.1 q (aH (j A E s r Q n (aB (La _ _) d) k.2 ds h))))
noncomputable def TU (h:Heap) (k:aE) (a:Addr):Prop:=∃x,Dt h Ar x (.ref a)/\isTup x=true/\Gk x=true/\x.depth<=8/\norm x=k
theorem KN {h h':Heap} {d:Addr} {o:Obj} {es ep} (ho:h.get? d=some o) (hd:o.data= .dict es ep) (hs:gJ d h h'):(∀x v,Dt h Ar x v->Dt h' Ar x v)/\∀xs vs,jM h Ar xs vs->jM h' Ar xs vs:=by
 have q {c:String} {ar:Array aG} {a:Addr} (r:Sq h Ar c a ar):Sq h' Ar c a ar:=r.elim λo' n Y g e d' b=>⟨trivial,o',n,(hs.2 a λe=>by rw [e,ho] at g;cases g;rw [hd] at d';cases d').trans g,e,d',b⟩
 exact wC (λY r=>r) (λY Y r=>r) (λY Y r=>r) (λY Y r=>r) (λY i Y r=>Mr.elim r λa vs z e s d=>⟨z,a,vs,e,q s,i _ d⟩) (λY i Y r=>Mr.elim r λa vs z e s d=>⟨z,a,vs,e,q s,i _ d⟩) (λY Y r=>r) (λY r=>r)
  (λY Y i j Y r=>r.elim λY Y e a b=>e▸jM.cons (i _ a) (j _ b))
theorem LC {h:Heap} {P:Addr->Prop} {x y:aE} {v:aG} (a:Dt h P x v) (b:Dt h P y v):x=y:=(nS.1 x v a).elim λY p=>(nS.1 y v b).elim λY q=>SeqAt.Reads.unique x y _ _ _ p.2.2 p.1 q.1
theorem aBi {P:Addr->Prop} {x y:aE} {v u:aG} (a:Dt s.heap P x v) (b:Dt s.heap P y u) (hu:A.units+min x.depth y.depth<cLine) {Q:Bool->aK->Prop} (k:Q (dC x y) s):aO (model prog w) A (PySem.eqBool v u) Q E s:=(nS.1 x v a).elim λY p=>(nS.1 y u b).elim λY q=>SeqAt.eqAt_reads x y A s _ _ _ _ p.1 q.1 p.2.2 q.2.2 hu prog w E Q k
theorem IN {x y:aE} (kx:Gk x=true) (ky:Gk y=true) [Decidable (norm x=norm y)]:dC x y=decide (norm x=norm y):=by
 rw [iX,RE.1 x y kx ky,decide_eq_true_iff]
open Classical in
noncomputable def keyKind (prog:tO) (w:Mu):HeapKind prog w aE where
 is:=TU
 hash:=BG w
 draws:=Ig
 room:=λA=>A.units+60<cLine
 inj:=λp q=>p.elim λx p=>q.elim λy q=>p.2.2.2.2▸q.2.2.2.2▸congrArg norm (LC p.1 q.1)
 keeps:=λp ho hd hs=>p.elim λx p=>⟨x,(KN ho hd hs).1 _ _ p.1,p.2⟩
 pyHash:=λhu p h=>p.elim λx p=>AJ.1 x _ _ _ _ _ 8 p.2.2.2.1 p.2.2.1 p.1 (aX (bE (by decide) _) hu) (by rw [<-(Vp w).1 x |>.1,<-(Vp w).1 x |>.2,p.2.2.2.2];exact h)
 eqBool:=λ{A E s k l a b Q} hu p q h=>p.elim λx p=>q.elim λy q=>aBi p.1 q.1 (aX (bE (aB (Cg _ _) (aB p.2.2.2.1 (by decide))) _) hu)
  (by rw [IN p.2.2.1 q.2.2.1,p.2.2.2.2,q.2.2.2.2];exact h)
 quiet:=λp h=>p.elim λx p=>DU.1 x _ _ _ _ _ 8 p.2.2.2.1 p.2.2.1 p.1 h
open Classical in
noncomputable def aMv (prog:tO) (w:Mu) (h:Heap) (a:Addr) (xs:List (aE×Addr×aG)):Prop:=h.DictOfH (keyKind prog w) a xs
end
structure Gr where
 p:tO
 w:Mu
 h:Heap
 s:aK
 cl:Cl->Addr
 K:Frag
 mg:Str->Option aG
 mb:Str->Option aG
noncomputable def Gr.at (G:Gr) (h:Heap) (tk:Nat):aK:={G.s with heap:=h,toks:=tk}
structure Wd where
 mu:List Addr
 own:List Addr
noncomputable def Wd.out (σ:Wd) (a:Addr):Prop:=a∉σ.mu/\a∉σ.own
structure tL (h:Heap) (σ:Wd) (h':Heap) (σ':Wd):Prop where
 k:∀a o,σ.out a->h.get? a=some o->σ'.out a/\h'.get? a=some o
 m:∀ (r:Nat) a,σ.mu[r]? =some a->σ'.mu[r]? =some a
noncomputable def Sub (h h':Heap):Prop:=∀a o,h.get? a=some o->h'.get? a=some o
noncomputable def cU (os:List Addr) (h h':Heap):Prop:=(∀a o,a∉os->h.get? a=some o->h'.get? a=some o)/\h.objs.size<=h'.objs.size
section
variable {α β:Type}
noncomputable def dZ (R:α->β->Prop):List α->List β->Prop
 | [],ys=>ys=[]
 | x::xs,ys=>∃y r,ys=y::r/\R x y/\dZ R xs r
theorem dZ.elim {R:α->β->Prop} {x:α} {xs:List α} {ys:List β} {C:Prop} (r:dZ R (x::xs) ys) (k:∀y q,ys=y::q->R x y->dZ R xs q->C):C:=let ⟨y,q,e,a,b⟩:=r;k y q e a b
theorem dZ.cons {R:α->β->Prop} {x:α} {xs:List α} {y:β} {ys:List β} (a:R x y) (b:dZ R xs ys):dZ R (x::xs) (y::ys):=⟨y,ys,rfl,a,b⟩
theorem dZ.mono {R S:α->β->Prop} (k:∀x y,R x y->S x y) (xs:List α):∀ys:List β,dZ R xs ys->dZ S xs ys:=dR (motive:=λxs=>∀ys:List β,dZ R xs ys->dZ S xs ys) (λY r=>r) (λY Y i Y r=>r.elim λY Y e a b=>e▸dZ.cons (k _ _ a) (i _ b)) xs
theorem dZ.app {R:α->β->Prop} {xs xs':List α} {ys ys':List β} (r:dZ R xs ys) (r':dZ R xs' ys'):dZ R (xs++xs') (ys++ys'):=dR (motive:=λxs=>∀ys:List β,dZ R xs ys->dZ R (xs++xs') (ys++ys')) (λY e=>(show _=[] from e)▸r') (λY Y i Y r=>r.elim λY Y e a b=>e▸dZ.cons a (i _ b)) xs ys r
theorem dZ.len {R:α->β->Prop} {xs:List α} {ys:List β} (r:dZ R xs ys):ys.length=xs.length:=dR (motive:=λxs=>∀ys:List β,dZ R xs ys->ys.length=xs.length) (λY e=>congrArg oW e) (λY Y i Y r=>r.elim λY Y e a b=>e▸congrArg (· +1) (i _ b)) xs ys r
inductive Cd (R:α->β->Prop):Option α->Option β->Prop
 | none:Cd R none none
 | some {a b}:R a b->Cd R (some a) (some b)
theorem Cd.mono {R S:α->β->Prop} (k:∀x y,R x y->S x y) {x:Option α} {y:Option β} (r:Cd R x y):Cd S x y:=by
 cases r with
 | none=>exact .none
 | some a=>exact .some (k _ _ a)
end
noncomputable def cu:List (Nm×V)->Nat
 | []=>0
 | p::r=>if nB p.2 then cu r else cu r+1
noncomputable def cs (z:Bool) (x:aE):List aE:=if z then (BQ x).getD [] else [x]
noncomputable def Handed (z:Bool) (h h':Heap) (v:aG) (us:List aG):Prop:=if z then ∃T n,v= .ref T/\h.objs.size<=T/\h'.get? T=some {cls:= .type "tuple",data:= .seq us.toArray n}/\us.length<=bW else us=[v]
section
variable (G:Gr)
structure TT (z:Bool) (I:Addr) (os fp:List Addr) (S:Nat->Heap->Prop) (P:Nat->List aG->Prop) (n:Nat):Prop where
 item:∀A h tk j,A.handled=none->j<n->S j h->∀E (Q:Option aG->aK->Prop),(∀v h' tk' us,P j us->Handed z h h' v us->cU os h h'->
  (∀target,(z=true->∃l n p,target=Expr.Tuple l n p)->∀E (Q:Unit->aK->Prop),(∀h'',S (j+1) h''->cU os h' h''->Q () (G.at h'' tk'))->aO (model G.p G.w) A (letOwnedTupleGo target (.ref I) v) Q E (G.at h' tk'))->Q (some v) (G.at h' tk'))->
  aO (model G.p G.w) A (pyNext (.ref I)) Q E (G.at h tk)
 done:∀A h tk,A.handled=none->S n h->∀E (Q:Option aG->aK->Prop),(∀h' tk',cU os h h'->Q none (G.at h' tk'))->aO (model G.p G.w) A (pyNext (.ref I)) Q E (G.at h tk)
 self:∀A h tk j,A.handled=none->S j h->∀E (Q:aG->aK->Prop),Q (.ref I) (G.at h tk)->aO (model G.p G.w) A (pyIter (.ref I)) Q E (G.at h tk)
 frame:∀j h h',S j h->(∀b∈fp,∀o,h.get? b=some o->h'.get? b=some o)->S j h'
variable (h:Heap) (σ:Wd)
noncomputable def Rep (v:V) (w:aG):Prop:=match v with
 | .un=>True
 | .d x=>Dt h σ.out x w
 | .ref r=>∃a,σ.mu[r]? =some a/\w= .ref a
 | .inst c r=>∃x a,w= .ref x/\σ.mu[r]? =some a/\h.get? x=some (instObj (G.cl c) a)/\σ.out x
 | .GW lo hi=>∃r t u v,w= .ref r/\σ.out r/\IsRange h r lo hi 1 t u v
 | .sd kvs=>∃a f,w= .ref a/\(a==sysModules)=false/\σ.out a/\h.MapOf (strKind G.p G.w) a f/\∀x,Cd (Dt h σ.out) (Ed kvs x) (f x)
noncomputable def sU (a:Addr) (l:List aE):Prop:=∃ws n,h.get? a=some (listOf ws n)/\jM h σ.out l ws.toList/\l.length<=bW
noncomputable def MJ (C:Addr) (L:Nm->Prop) (ρ:List (Nm×V)):Prop:=∃m,h.Ns C m/\∀x v,ρ.lookup x=some v->nB v=true->L x->∃w,m x.str=some w/\Rep G h σ v w
noncomputable def TX (p:Int×V) (q:Int×aG):Prop:=p.1=q.1/\Rep G h σ p.2 q.2
structure aIc (p:aE×aE) (q:aE×Addr×aG):Prop where
 n:norm p.1=q.1
 t:isTup p.1=true
 y:Gk p.1=true
 d:p.1.depth<=8
 k:Dt h σ.out p.1 (.ref q.2.1)
 v:Dt h σ.out p.2 q.2.2
noncomputable def sv (x:Str) (es:List lN):Option aG:=(es.find? (·.key.isStr x)).map (·.val)
structure aMo (kvs:List (Nm×V)) (es:List lN):Prop where
 len:es.length+cu kvs<=100
 key:∀e∈es,∃x t,x∈kvs.map (·.1)/\e.key= .str (Nm.str x) t
noncomputable def Kv (a:Addr) (o:O):Prop:=match o with
 | .list l=>sU h σ a l
 | .sJ l=>sU h σ a l
 | .di kvs=>∃xs,h.DictOf (intKind G.p G.w) a xs/\dZ (TX G h σ) kvs xs/\kvs.length<=bW
 | .dt kvs=>∃xs:List (aE×Addr×aG),aMv G.p G.w h a xs/\dZ (aIc h σ) kvs xs/\kvs.length<=bW
 | .ns kvs=>∃es n,h.get? a=some (dictOf es n)/\aMo kvs es/\∀x v,kvs.lookup x=some v->nB v=true->∃w,sv x.str es=some w/\Rep G h σ v w
noncomputable def To (env:Env) (ρ:List (Nm×V)):Prop:=∀x:Nm,env.kindOf x.str=some .cell->∃a c o,env.cells.lookup x.str=some a/\h.get? a=some o/\o.data= .cell c/\∀v,ρ.lookup x=some v->nB v=true->∃w,c=some w/\Rep G h σ v w
noncomputable def CX (z:Bool) (I:Addr) (os:List Addr) (rs:List Nat) (xs:List aE):Prop:=∃S P i fp,TT G z I os fp S P (i+xs.length)/\S i h/\(∀b∈fp,b∈os\/(σ.out b/\∃o,h.get? b=some o)\/∃r∈rs,σ.mu[r]? =some b)/\∀j x us,xs[j]? =some x->P (i+j) us->jM h σ.out (cs z x) us
end
inductive It where
 | v (v:V) (w:aG)
 | vs (vs:List V) (ws:List aG)
 | fr (env:Env) (ρ:List (Nm×V))
 | ns (C:Addr) (ρ:List (Nm×V))
 | acc (D:Addr) (ys:List aE)
 | it (z:Bool) (I:Addr) (os:List Addr) (rs:List Nat) (xs:List aE)
 | mark (l:List Nat)
 | ob (a:Addr) (o:Obj)
 | fz (rs:List Nat)
 | no
noncomputable def frameOf (env:Env):List Addr:=env.locals::env.cells.map (·.2)
noncomputable def It.own (i:It):List Addr:=match i with
 | .fr env _=>frameOf env
 | .ns C _=>[C]
 | .acc D _=>[D]
 | .it _ _ os _ _=>os
 | .ob a _=>[a]
 | _=>[]
noncomputable def It.rs (i:It):List Nat:=match i with
 | .it _ _ _ rs _=>rs
 | .fz rs=>rs
 | _=>[]
noncomputable def It.marks (i:It):List (List Nat):=match i with
 | .mark l=>[l]
 | _=>[]
noncomputable def It.ok (G:Gr) (h:Heap) (σ:Wd) (i:It):Prop:=match i with
 | .v u w=>Rep G h σ u w
 | .vs us ws=>dZ (Rep G h σ) us ws
 | .fr env ρ=>MJ G h σ env.locals (λx=>env.kindOf x.str=some .local) ρ/\To G h σ env ρ/\∀p∈env.cells,∃o c,h.get? p.2=some o/\o.data= .cell c
 | .ns C ρ=>MJ G h σ C (λY=>True) ρ
 | .acc D ys=>sU h σ D ys
 | .it z I os rs xs=>CX G h σ z I os rs xs
 | .mark _=>True
 | .ob a o=>h.get? a=some o
 | .fz _=>True
 | .no=>False
noncomputable def bP (k:List It):List Addr:=k.flatMap It.own
noncomputable def Ii (k:List It):List Nat:=k.flatMap It.rs
noncomputable def PE (k:List It):List (List Nat):=k.flatMap It.marks
structure Iv (G:Gr) (st:St) (k:List It) (h:Heap) (mu:List Addr):Prop where
 base:Sub G.h h
 size:G.h.objs.size<=h.objs.size
 len:mu.length=st.next
 nd:(mu++bP k).Nodup
 lo:∀a∈mu++bP k,G.h.objs.size<=a/\a<h.objs.size
 objs:∀r o,(r,o)∈st.objs->∃a,mu[r]? =some a/\Kv G h ⟨mu,bP k⟩ a o
 keys:(st.objs.map (·.1)).Nodup
 uJ:∀i∈k,i.ok G h ⟨mu,bP k⟩
 ME:(Ii k).Nodup
 sJ:∀r∈Ii k,∃l,(r,O.sJ l)∈st.objs
 mark:∀l∈PE k,l<+:st.objs.map (·.1)
noncomputable def Inv (G:Gr) (st:St) (k:List It) (s:aK):Prop:=∃h tk mu,s=G.at h tk/\Iv G st k h mu
section
variable {G:Gr} {h h':Heap} {σ σ':Wd}
theorem tL.dt (K:tL h σ h' σ') {x:aE} {w:aG} (d:Dt h σ.out x w):Dt h' σ'.out x w:=(Ki K.k).1 x w d
theorem tL.Sr (K:tL h σ h' σ') {x:List aE} {w:List aG} (d:jM h σ.out x w):jM h' σ'.out x w:=(Ki K.k).2 x w d
theorem Rep.mono (K:tL h σ h' σ') (v:V) (w:aG) (r:Rep G h σ v w):Rep G h' σ' v w:=by
 cases v with
 | un=>trivial
 | d x=>exact K.dt r
 | ref i=>exact r.elim λa p=>⟨a,K.m _ _ p.1,p.2⟩
 | inst c i=>exact r.elim λx p=>p.elim λa p=>⟨x,a,p.1,K.m _ _ p.2.1,(K.k _ _ p.2.2.2 p.2.2.1).2,(K.k _ _ p.2.2.2 p.2.2.1).1⟩
 | GW lo hi=>exact r.elim λr p=>p.elim λt p=>p.elim λu p=>p.elim λv p=>⟨r,t,u,v,p.1,K.k _ _ p.2.1 p.2.2⟩
 | sd kvs=>exact r.elim λa p=>p.elim λf p=>p.2.2.2.1.elim λo q=>q.elim λes q=>q.elim λep q=>⟨a,f,p.1,p.2.1,(K.k _ _ p.2.2.1 q.1).1,⟨o,es,ep,(K.k _ _ p.2.2.1 q.1).2,q.2⟩,λx=>(p.2.2.2.2 x).mono λY Y=>K.dt⟩
theorem MJ.mono (K:tL h σ h' σ') {C:Addr} {L:Nm->Prop} {ρ:List (Nm×V)} (e:∀o,h.get? C=some o->h'.get? C=some o) (r:MJ G h σ C L ρ):MJ G h' σ' C L ρ:=r.elim λm p=>⟨m,p.1.at' e,λx v a b c=>(p.2 x v a b c).imp λw q=>⟨q.1,Rep.mono K _ _ q.2⟩⟩
theorem sU.mono (K:tL h σ h' σ') {a:Addr} {l:List aE} (e:∀o,h.get? a=some o->h'.get? a=some o) (r:sU h σ a l):sU h' σ' a l:=r.elim λws p=>p.elim λn p=>⟨ws,n,e _ p.1,K.Sr p.2.1,p.2.2⟩
theorem dZ.right {α β:Type} {R:α->β->Prop} {S:β->Prop} (k:∀x y,R x y->S y) (xs:List α):∀ys:List β,dZ R xs ys->∀y∈ys,S y:=dR (motive:=λxs=>∀ys:List β,dZ R xs ys->∀y∈ys,S y) (λY e=>(show _=[] from e)▸λY h=>nomatch h) (λY Y i Y r=>r.elim λY Y e a b=>e▸λy hy=>(aJ.mp hy).elim (λe=>e▸k _ _ a) (i _ b y)) xs
theorem aIc.at_ {p:aE×aE} {q:aE×Addr×aG} (t:aIc h σ p q):TU h q.1 q.2.1:=⟨_,(Ki (λY Y Y g=>⟨trivial,g⟩)).1 _ _ t.k,t.t,t.y,t.d,t.n⟩
theorem Kv.mono (K:tL h σ h' σ') {a:Addr} {o:O} (e:∀o,h.get? a=some o->h'.get? a=some o) (r:Kv G h σ a o):Kv G h' σ' a o:=by
 cases o with
 | list l=>exact sU.mono K e r
 | sJ l=>exact sU.mono K e r
 | di kvs=>exact r.elim λxs p=>p.1.elim λo q=>q.elim λes q=>q.elim λep q=>⟨xs,⟨o,es,ep,e _ q.1,q.2⟩,dZ.mono (λY Y t=>⟨t.1,Rep.mono K _ _ t.2⟩) _ _ p.2.1,p.2.2⟩
 | dt kvs=>
  refine r.elim λxs p=> ?_
  have q:dZ (aIc h' σ') kvs xs:=dZ.mono (λY Y t=>⟨t.n,t.t,t.y,t.d,K.dt t.k,K.dt t.v⟩) _ _ p.2.1
  have ks:=dZ.right (S:=λq=>TU h' q.1 q.2.1) (λY Y t=>t.at_) _ _ q
  exact p.1.elim λo r=>r.elim λes r=>r.elim λep r=>⟨xs,⟨o,es,ep,e _ r.1,r.2.1,r.2.2.1,r.2.2.2.1,ks,r.2.2.2.2.2⟩,q,p.2.2⟩
 | ns kvs=>exact r.elim λes p=>p.elim λn p=>⟨es,n,e _ p.1,p.2.1,λx v a b=>(p.2.2 x v a b).imp λw q=>⟨q.1,Rep.mono K _ _ q.2⟩⟩
theorem To.mono (K:tL h σ h' σ') {env:Env} {ρ:List (Nm×V)} (e:∀p∈env.cells,∀o,h.get? p.2=some o->h'.get? p.2=some o) (r:To G h σ env ρ):To G h' σ' env ρ:=λx hx=>(r x hx).elim λa p=>p.elim λc p=>p.elim λo p=>⟨a,c,o,p.1,e (x.str,a) (eY p.1) o p.2.1,p.2.2.1,λv a b=>(p.2.2.2 v a b).imp λw q=>⟨q.1,Rep.mono K _ _ q.2⟩⟩
theorem It.mono (K:tL h σ h' σ') {i:It} (e:∀a o,a∈i.own\/(∃r∈i.rs,σ.mu[r]? =some a)->h.get? a=some o->h'.get? a=some o) (r:i.ok G h σ):i.ok G h' σ':=by
 cases i with
 | v u w=>exact Rep.mono K _ _ r
 | vs us ws=>exact dZ.mono (Rep.mono K) _ _ r
 | fr env ρ=>
  have c:∀p∈env.cells,∀o,h.get? p.2=some o->h'.get? p.2=some o:=λp hp o=>e _ o (.inl (cX _ (aT.mpr ⟨p,hp,rfl⟩)))
  exact ⟨MJ.mono K (λo=>e _ o (.inl (cF ..))) r.1,To.mono K c r.2.1,λp hp=>(r.2.2 p hp).imp λo q=>q.imp λk q=>⟨c p hp o q.1,q.2⟩⟩
 | ns C ρ=>exact MJ.mono K (λo=>e _ o (.inl (cF ..))) r
 | acc D ys=>exact sU.mono K (λo=>e _ o (.inl (cF ..))) r
 | it z I os rs xs=>exact r.elim λS p=>p.elim λP p=>p.elim λi p=>p.elim λfp p=>⟨S,P,i,fp,p.1,p.1.frame i h h' p.2.1 λb hb o g=>(p.2.2.1 b hb).elim (λq=>e b o (.inl q) g) λq=>q.elim (λq=>(K.k b o q.1 g).2) λq=>e b o (.inr q) g,
   λb hb=>(p.2.2.1 b hb).imp id λq=>q.imp (λq=>q.2.elim λo g=>⟨(K.k b o q.1 g).1,o,(K.k b o q.1 g).2⟩) λq=>q.imp λr q=>⟨q.1,K.m _ _ q.2⟩,λj x us a b=>K.Sr (p.2.2.2 j x us a b)⟩
 | mark _=>trivial
 | ob a o=>exact e a o (.inl (.head _)) r
 | fz _=>trivial
 | no=>exact r
end
section
variable {G:Gr} {h h':Heap} {st st':St} {p p' k:List It} {mu ν wr:List Addr}
theorem qJ (a b:List It):bP (a++b)=bP a++bP b:=vJ
theorem WK {A B C D N:List Addr} {z:Nat} (nd:(A++(B++C)).Nodup) (lo:∀a∈A++(B++C),a<z) (own:∀a∈D,a∈B\/z<=a) (fr:∀a∈N,z<=a) (n:(N++D).Nodup):(A++N++(D++C)).Nodup:=by
 have nd1:=bB.mp nd
 have nd2:=bB.mp nd1.2.1
 have n1:=bB.mp n
 have la:∀a∈A,a<z:=λa x=>lo a (aL _ x)
 have lc:∀a∈C,a<z:=λa x=>lo a (aQ _ (aQ _ x))
 have q {x y:Nat} (h1:x<z) (h2:z<=y):x≠y:=fX (bA h1 h2)
 refine bB.mpr ⟨bB.mpr ⟨nd1.1,n1.1,λa x b y=>q (la a x) (fr b y)⟩,bB.mpr ⟨n1.2.1,nd2.2.1,λa x b y=>(own a x).elim (λx=>nd2.2.2 a x b y) λx=>(q (lc b y) x).symm⟩,λa x b y=> ?_⟩
 refine (aV.mp x).elim (λx=>(aV.mp y).elim (λy=>(own b y).elim (λy=>nd1.2.2 a x b (aL _ y)) (q (la a x))) λy=>nd1.2.2 a x b (aQ _ y)) λx=>(aV.mp y).elim (λy=>n1.2.2 a x b y) λy=>(q (lc b y) (fr a x)).symm
theorem Bv {mu:List Addr} {r:Nat} {a:Addr} (e:mu[r]? =some a):a∈mu:=Ds e
theorem PD {mu:List Addr} {r r':Nat} {a:Addr} (nd:mu.Nodup) (e:mu[r]? =some a) (e':mu[r']? =some a):r=r':=(List.getElem?_inj (lK.mp e).1 nd).mp (e.trans e'.symm)
theorem Iv.aKn {k:List It} (I:Iv G st k h mu):mu.Nodup:=(bB.mp I.nd).1
structure aQr (G:Gr) (st st':St) (p p' k:List It) (h h':Heap) (mu ν wr:List Addr):Prop where
 kp:cU wr h h'
 hw:∀a∈wr,a∈bP p\/∃r,mu[r]? =some a/\r∉Ii k
 own:∀a∈bP p',a∈bP p\/h.objs.size<=a
 fr:∀a∈ν,h.objs.size<=a
 lt:∀a∈ν++bP p',a<h'.objs.size
 nd:(ν++bP p').Nodup
 len:(mu++ν).length=st'.next
 objs:tL h ⟨mu,bP (p++k)⟩ h' ⟨mu++ν,bP (p'++k)⟩->∀r o,(r,o)∈st'.objs->(∃a,mu[r]? =some a/\a∉wr/\Kv G h ⟨mu,bP (p++k)⟩ a o)\/∃a,(mu++ν)[r]? =some a/\Kv G h' ⟨mu++ν,bP (p'++k)⟩ a o
 keys:(st'.objs.map (·.1)).Nodup
 uJ:tL h ⟨mu,bP (p++k)⟩ h' ⟨mu++ν,bP (p'++k)⟩->∀i∈p',i.ok G h' ⟨mu++ν,bP (p'++k)⟩
 ME:(Ii (p'++k)).Nodup
 sJ:∀r∈Ii (p'++k),∃l,(r,O.sJ l)∈st'.objs
 mark:∀l∈PE (p'++k),l<+:st'.objs.map (·.1)
theorem Iv.step (I:Iv G st (p++k) h mu) (s:aQr G st st' p p' k h h' mu ν wr):Iv G st' (p'++k) h' (mu++ν):=by
 have nd:=I.nd
 have lo:=I.lo
 rw [qJ] at nd lo
 have ndk:=(bB.mp (bB.mp nd).2.1).2.2
 have hk:∀a∈wr,a∉bP k/\∀r∈Ii k,mu[r]? ≠some a:=λa x=>(s.hw a x).elim
  (λy=>⟨λz=>ndk a y a z rfl,λr Y e=>(bB.mp nd).2.2 a (Bv e) a (aL _ y) rfl⟩)
  λy=>y.elim λr y=>⟨λz=>(bB.mp nd).2.2 a (Bv y.1) a (aQ _ z) rfl,λr' hr e=>y.2 (PD (bB.mp nd).1 e y.1▸hr)⟩
 have K:tL h ⟨mu,bP (p++k)⟩ h' ⟨mu++ν,bP (p'++k)⟩:=by
  refine ⟨λa o x g=>⟨⟨λy=>(aV.mp y).elim x.1 λy=>absurd (dG g) (fG.mpr (s.fr a y)),λy=> ?_⟩,s.kp.1 a o (λy=>(s.hw a y).elim (λy=>x.2 ?_) λy=>y.elim λr y=>x.1 (Bv y.1)) g⟩,λr a e=> ?_⟩
  ·replace y:a∈bP (p'++k):=y
   rw [qJ] at y
   exact (aV.mp y).elim (λy=>(s.own a y).elim (λy=>x.2 (qJ p k▸aL _ y)) λy=>absurd (dG g) (fG.mpr y)) λy=>x.2 (qJ p k▸aQ _ y)
  ·exact (qJ p k▸aL _ y:a∈bP (p++k))
  ·exact (pU (lK.mp e).1).trans e
 refine ⟨λa o g=>s.kp.1 a o (λy=>absurd (dG g) (fG.mpr ?_)) (I.base a o g),aB I.size s.kp.2,s.len,?_,λa x=> ?_,λr o m=> ?_,s.keys,λi m=>(aV.mp m).elim (s.uJ K i) λm=> ?_,s.ME,s.sJ,s.mark⟩
 ·exact (lo a ((s.hw a y).elim (λy=>aQ _ (aL _ y)) λy=>y.elim λr y=>aL _ (Bv y.1))).1
 ·rw [qJ];exact WK nd (λa x=>(lo a x).2) s.own s.fr s.nd
 ·have q {a:Addr} (x:h.objs.size<=a) (y:a∈ν++bP p'):G.h.objs.size<=a/\a<h'.objs.size:=⟨aB I.size x,s.lt a y⟩
  have q' {a:Addr} (x:a∈mu++(bP p++bP k)):G.h.objs.size<=a/\a<h'.objs.size:=⟨(lo a x).1,bA (lo a x).2 s.kp.2⟩
  rw [qJ] at x
  exact (aV.mp x).elim (λx=>(aV.mp x).elim (λx=>q' (aL _ x)) λx=>q (s.fr a x) (aL _ x))
   λx=>(aV.mp x).elim (λx=>(s.own a x).elim (λy=>q' (aQ _ (aL _ y))) λy=>q y (aQ _ x)) λx=>q' (aQ _ (aQ _ x))
 ·exact (s.objs K r o m).elim (λx=>x.elim λa x=>⟨a,K.m r a x.1,x.2.2.mono K λo g=>s.kp.1 a o x.2.1 g⟩) id
 ·refine It.mono K (λa o x g=>s.kp.1 a o (λy=> ?_) g) (I.uJ i (aQ _ m))
  exact x.elim (λx=>(hk a y).1 (sW.mpr ⟨i,m,x⟩)) λx=>x.elim λr x=>(hk a y).2 r (sW.mpr ⟨i,m,x.1⟩) x.2
end
section
variable {G:Gr} {h h':Heap} {st st':St} {p p' k:List It} {mu ν wr:List Addr} {v:V} {w:aG}
theorem cB {α:Type} {P:α->Prop}:∀a∈([]:List α),P a:=λY x=>nomatch x
theorem Bk (a b:List It):Ii (a++b)=Ii a++Ii b:=vJ
theorem Xp (a b:List It):PE (a++b)=PE a++PE b:=vJ
theorem cU.refl (h:Heap):cU wr h h:=⟨λY Y Y e=>e,bM _⟩
theorem cU.push (h:Heap) (o:Obj):cU wr h (h.push o):=⟨λY Y Y e=>bI _ e,by rw [cO];exact bJ _⟩
theorem cU.same {a:Addr} (s:gJ a h h'):cU [a] h h':=⟨λb Y x e=>(s.2 b λy=>x (y▸cF ..)).trans e,bT s.1.symm⟩
theorem cU.trans {h'':Heap} (a:cU wr h h') (b:cU wr h' h''):cU wr h h'':=⟨λc o x e=>b.1 c o x (a.1 c o x e),aB a.2 b.2⟩
theorem cU.up {wr':List Addr} (a:cU wr h h') (s:∀b∈wr,b∈wr'\/h.objs.size<=b):cU wr' h h':=⟨λc o x e=>a.1 c o (λy=>(s c y).elim x λz=>absurd (dG e) (fG.mpr z)) e,a.2⟩
theorem cU.sub (a:cU [] h h'):Sub h h':=λc o e=>a.1 c o bN e
theorem Iv.keep (I:Iv G st k h mu) (a:cU [] h h'):tL h ⟨mu,bP k⟩ h' ⟨mu,bP k⟩:=⟨λb o x e=>⟨x,a.sub b o e⟩,λY Y e=>e⟩
theorem VJ {k:List It} (nd:(Ii (p++k)).Nodup) (rs:∀r∈Ii p',r∈Ii p) (rn:(Ii p').Nodup):(Ii (p'++k)).Nodup:=by
 rw [Bk] at nd⊢
 have nd:=bB.mp nd
 exact bB.mpr ⟨rn,nd.2.1,λa x b y=>nd.2.2 a (rs a x) b y⟩
theorem Iv.same (I:Iv G st (p++k) h mu) (kp:cU wr h h') (hw:∀a∈wr,a∈bP p) (own:∀a∈bP p',a∈bP p\/h.objs.size<=a) (lt:∀a∈bP p',a<h'.objs.size) (nd:(bP p').Nodup) (rs:∀r∈Ii p',r∈Ii p) (rn:(Ii p').Nodup) (mk:∀l∈PE p',l∈PE p)
  (uJ:tL h ⟨mu,bP (p++k)⟩ h' ⟨mu,bP (p'++k)⟩->∀i∈p',i.ok G h' ⟨mu,bP (p'++k)⟩):Iv G st (p'++k) h' mu:=by
 have hs:∀r∈Ii (p'++k),r∈Ii (p++k):=λr x=>by
  rw [Bk] at x⊢
  exact aV.mpr ((aV.mp x).imp (rs r) id)
 have e:mu++[]=mu:=cN mu
 have q:=Iv.step (ν:=[]) (st':=st) (p':=p') (h':=h') (wr:=wr) I
 rw [e] at q
 refine q ⟨kp,λa x=> .inl (hw a x),own,cB,lt,nd,by rw [e];exact I.len,λY r o m=> .inl ((I.objs r o m).imp λa x=>⟨x.1,λy=> ?_,x.2⟩),I.keys,by rw [e];exact uJ,VJ I.ME rs rn,λr x=>I.sJ r (hs r x),λl x=>I.mark l ?_⟩
 ·have nd:=I.nd
  rw [qJ] at nd
  exact (bB.mp nd).2.2 a (Bv x.1) a (aL _ (hw a y)) rfl
 ·rw [Xp] at x⊢
  exact aV.mpr ((aV.mp x).imp (mk l) id)
theorem Iv.grow (I:Iv G st k h mu) (kp:cU [] h h'):Iv G st k h' mu:=Iv.same (p:=[]) (p':=[]) I kp cB cB cB .nil cB .nil cB λY=>cB
theorem Iv.val (I:Iv G st k h mu) (kp:cU [] h h') (r:Rep G h' ⟨mu,bP k⟩ v w):Iv G st (.v v w::k) h' mu:=Iv.same (p:=[]) (p':=[.v v w]) I kp cB cB cB .nil cB .nil cB λY i x=>by rw [aC.mp x];exact r
theorem Iv.vals {vs:List V} {ws:List aG} (I:Iv G st k h mu) (r:dZ (Rep G h ⟨mu,bP k⟩) vs ws):Iv G st (.vs vs ws::k) h mu:=Iv.same (p:=[]) (p':=[.vs vs ws]) I (.refl h (wr:=[])) cB cB cB .nil cB .nil cB λY i x=>by rw [aC.mp x];exact r
theorem Kh {α β:Type} (f:α->List β) {a b:List α} (s:a.Sublist b):(a.flatMap f).Sublist (b.flatMap f):=by
 induction s with
 | slnil=>exact .refl _
 | cons x _ i=>exact i.trans (List.sublist_append_right _ _)
 | cons_cons x _ i=>exact List.Sublist.append (.refl _) i
theorem Iv.sub {k':List It} (I:Iv G st k h mu) (s:k'.Sublist k):Iv G st k' h mu:=by
 have e {a:List It}:a++[]=a:=cN a
 have so:(bP k').Sublist (bP k):=Kh _ s
 have q:=Iv.same (p:=k) (p':=k') (k:=[]) (h:=h) (h':=h) (mu:=mu) (st:=st) (G:=G) (wr:=[])
 rw [e,e] at q
 have K:tL h ⟨mu,bP k⟩ h ⟨mu,bP k'⟩:=⟨λa o x g=>⟨⟨x.1,λy=>x.2 (so.subset y)⟩,g⟩,λY Y e=>e⟩
 exact q I (.refl h) cB (λa x=> .inl (so.subset x)) (λa x=>(I.lo a (aQ _ (so.subset x))).2) (so.nodup (bB.mp I.nd).2.1) (λr x=>(Kh _ s).subset x) ((Kh _ s).nodup I.ME) (λl x=>(Kh _ s).subset x)
  λY i x=>It.mono K (λY Y Y g=>g) (I.uJ i (s.subset x))
theorem Iv.swap {a b:It} (I:Iv G st (a::b::k) h mu):Iv G st (b::a::k) h mu:=by
 have e' {α:Type} {f:It->List α} {x y:It} (n:([x,y].flatMap f).Nodup):([y,x].flatMap f).Nodup:=((cY y x []).flatMap_right f).nodup_iff.mp n
 have I':Iv G st ([a,b]++k) h mu:=I
 have n:=I'.nd
 rw [qJ] at n
 have nr:=I'.ME
 rw [Bk] at nr
 have mp {α:Type} {f:It->List α} {x y:It} {z:α}:z∈[x,y].flatMap f->z∈[y,x].flatMap f:=λm=>((cY y x []).flatMap_right f).mem_iff.mp m
 refine Iv.same (p:=[a,b]) (p':=[b,a]) (wr:=[]) I' (.refl h) cB (λz m=> .inl (mp m)) (λz m=>(I'.lo z (aQ _ (qJ [a,b] k▸aL _ (mp m)))).2) (e' (bB.mp (bB.mp n).2.1).1) (λr m=>mp m) (e' (bB.mp nr).1) (λl m=>mp m) λK i m=> ?_
 exact It.mono K (λY Y Y g=>g) (I'.uJ i (aL _ ((cY a b []).mem_iff.mp m)))
theorem WX {p:Nat×O} {l:List (Nat×O)} {r:Nat}:mC (p::l) r=if p.1=r then some p.2 else mC l r:=rfl
theorem Wp {p:Nat×O} {l:List (Nat×O)} {r:Nat} {o:O}:lY (p::l) r o=if p.1=r then (p.1,o)::l else p::lY l r o:=rfl
theorem Ft {l:List (Nat×O)} {r:Nat} {o:O}:mC l r=some o->(r,o)∈l:=
 dR (motive:=λl=>mC l r=some o->(r,o)∈l) (λe=>nomatch e) (λp l i e=>by
  rw [WX] at e
  split at e
  ·rename_i x;cases e;exact x▸ .head _
  ·exact .tail _ (i e)) l
theorem Uu (l:List (Nat×O)) (r:Nat) (o:O):(lY l r o).map (·.1)=l.map (·.1):=
 dR (motive:=λl=>(lY l r o).map (·.1)=l.map (·.1)) rfl (λp l i=>by
  rw [Wp]
  split
  ·rfl
  ·exact congrArg (p.1:: ·) i) l
theorem NM {r r':Nat} {o o':O} (l:List (Nat×O)):(l.map (·.1)).Nodup->(r',o')∈lY l r o->(r'=r/\o'=o)\/(r'≠r/\(r',o')∈l):=
 dR (motive:=λl=>(l.map (·.1)).Nodup->(r',o')∈lY l r o->(r'=r/\o'=o)\/(r'≠r/\(r',o')∈l)) (λY x=>nomatch x) (λp l i nd x=>by
  have nd:=bV.mp nd
  rw [Wp] at x
  split at x
  ·rename_i e
   refine (aJ.mp x).elim (λx=> .inl (cL x |>.imp (·.trans e) id)) λx=> .inr ⟨λy=>nd.1 (aT.mpr ⟨_,x,y.trans e.symm⟩),.tail _ x⟩
  ·rename_i e
   refine (aJ.mp x).elim (λx=> .inr ⟨λy=>e ((congrArg bY x).symm.trans y),x▸ .head _⟩) λx=>(i nd.2 x).imp id λy=>⟨y.1,.tail _ y.2⟩) l
theorem Xu {l:List (Nat×O)} {r:Nat} {o o':O} (nd:(l.map (·.1)).Nodup) (a:(r,o)∈l) (b:(r,o')∈l):o=o':=by
 induction l with
 | nil=>cases a
 | cons p l i=>
  have nd:=bV.mp nd
  cases a with
  | head=>cases b with
   | head=>rfl
   | tail _ b=>exact absurd (aT.mpr ⟨_,b,rfl⟩) nd.1
  | tail _ a=>cases b with
   | head=>exact absurd (aT.mpr ⟨_,a,rfl⟩) nd.1
   | tail _ b=>exact i nd.2 a b
noncomputable def St.put (st:St) (r:Nat) (o:O):St:={st with objs:=lY st.objs r o}
noncomputable def St.add (st:St) (o:O):St:={objs:=st.objs++[(st.next,o)],next:=st.next+1}
noncomputable def BC (o:O):Bool:=(aKh o).isSome
theorem Iv.upd {r:Nat} {a:Addr} {o o':O} (I:Iv G st (p++k) h mu) (hr:(r,o)∈st.objs) (nr:r∉Ii k) (ha:mu[r]? =some a) (kp:cU [a] h h') (own:∀a∈bP p',a∈bP p\/h.objs.size<=a) (lt:∀a∈bP p',a<h'.objs.size) (nd:(bP p').Nodup)
  (rs:∀r'∈Ii p',r'=r/\BC o'=true) (ndr:(Ii p').Nodup) (mk:PE p'=[])
  (q:tL h ⟨mu,bP (p++k)⟩ h' ⟨mu,bP (p'++k)⟩->Kv G h' ⟨mu,bP (p'++k)⟩ a o'/\∀i∈p',i.ok G h' ⟨mu,bP (p'++k)⟩):Iv G (st.put r o') (p'++k) h' mu:=by
 have e:mu++[]=mu:=cN mu
 have q':=Iv.step (ν:=[]) (st':=st.put r o') (p':=p') (h':=h') (wr:=[a]) I
 rw [e] at q'
 have there {l:List (Nat×O)}:(r,o)∈l->(r,o')∈lY l r o':=by
  intro x
  induction l with
  | nil=>cases x
  | cons p l i=>
   rw [Wp]
   split
   ·rename_i e;exact e▸ .head _
   ·rename_i e;exact .tail _ (i ((aJ.mp x).resolve_left λx=>e (congrArg bY x).symm))
 have other {r':Nat} {u:O} {l:List (Nat×O)} (ne:r'≠r):(r',u)∈l->(r',u)∈lY l r o':=by
  intro x
  induction l with
  | nil=>cases x
  | cons p l i=>
   rw [Wp]
   split
   ·rename_i e;exact (aJ.mp x).elim (λx=>absurd ((congrArg bY x).trans e) ne) (.tail _)
   ·exact (aJ.mp x).elim (λx=>x▸ .head _) λx=> .tail _ (i x)
 have nk:∀r'∈Ii k,r'∈Ii (p++k):=λr' x=>by rw [Bk];exact aQ _ x
 refine q' ⟨kp,λb x=> .inr ⟨r,aC.mp x▸ha,nr⟩,own,cB,lt,nd,by rw [e];exact I.len,λK r' o'' m=> ?_,by rw [show (st.put r o').objs=lY st.objs r o' from rfl,Uu];exact I.keys,λK=> ?_,?_,λr' x=> ?_,λl x=> ?_⟩
 ·rw [e] at K⊢
  refine (NM st.objs I.keys m).elim (λx=> .inr ⟨a,x.1▸ha,x.2▸(q K).1⟩) λx=> .inl ((I.objs r' o'' x.2).imp λb y=>⟨y.1,λz=> ?_,y.2⟩)
  exact x.1 (PD I.aKn (aC.mp z▸y.1) ha)
 ·rw [e] at K⊢;exact (q K).2
 ·rw [Bk]
  have nd:=I.ME
  rw [Bk] at nd
  exact bB.mpr ⟨ndr,(bB.mp nd).2.1,λx hx y hy e=>nr ((rs x hx).1▸e▸hy)⟩
 ·rw [Bk] at x
  refine (aV.mp x).elim (λx=> ?_) λx=>(I.sJ r' (nk r' x)).imp λl y=>other (λz=>nr (z▸x)) y
  have z:=rs r' x
  rw [z.1]
  cases o' with
  | sJ l=>exact ⟨l,there hr⟩
  | _=>exact nomatch z.2
 ·rw [show (st.put r o').objs=lY st.objs r o' from rfl,Uu]
  rw [Xp,mk] at x
  exact I.mark l (by rw [Xp];exact aQ _ x)
theorem Iv.new {a:Addr} {o:O} (I:Iv G st k h mu) (kp:cU [] h h') (ha:h.objs.size<=a) (hl:a<h'.objs.size) (q:tL h ⟨mu,bP k⟩ h' ⟨mu++[a],bP k⟩->Kv G h' ⟨mu++[a],bP k⟩ a o):Iv G (st.add o) k h' (mu++[a])/\(mu++[a])[st.next]? =some a:=by
 have e:(mu++[a])[st.next]? =some a:=by rw [<-I.len];exact vQ
 refine ⟨Iv.step (ν:=[a]) (st':=st.add o) (p:=[]) (p':=[]) (k:=k) (h':=h') (wr:=[]) I ⟨kp,cB,cB,λb x=>by rw [aC.mp x];exact ha,λb x=>by rw [aC.mp x];exact hl,bV.mpr ⟨λx=>(nomatch x),.nil⟩,by rw [aN,I.len];rfl,λK r u m=> ?_,?_,λY=>cB,I.ME,λr x=>(I.sJ r x).imp λl y=>aL _ y,λl x=>(I.mark l x).trans (by show _<+:(st.objs++[(st.next,o)]).map (·.1);rw [cS];exact List.prefix_append _ _)⟩,e⟩
 ·refine (aV.mp m).elim (λx=> .inl ((I.objs r u x).imp λb y=>⟨y.1,bN,y.2⟩)) λx=>have x:=cL (aC.mp x); .inr ⟨a,x.1▸e,x.2▸q K⟩
 ·show ((st.objs++[(st.next,o)]).map (·.1)).Nodup
  rw [cS]
  refine bB.mpr ⟨I.keys,fP ..,λb x c z e=> ?_⟩
  rw [e,aC.mp z] at x
  refine (aT.mp x).elim λu x=>(I.objs u.1 u.2 x.1).elim λb y=>absurd (lK.mp y.1).1 ?_
  rw [x.2,I.len]
  exact qG _
end
section
variable {α β γ:Type} {st st':St}
theorem cC {a:α} {P:Prop} (e:none=some a):P:=nomatch e
theorem lH {P:Prop} (e:false=true):P:=nomatch e
set_option tactic.hygienic true in
theorem cE {m:M α} {f:α->M β} {b:β} {P:Prop} (e:(m>>=f) st=some (b,st')) (k:∀a s,m st=some (a,s)->f a s=some (b,st')->P):P:=by
 change M.bind m f st=some (b,st') at e
 unfold M.bind at e
 split at e
 ·rename_i a s h;exact k a s h e
 ·exact cC e
theorem pureE {a b:α} {P:α->St->Prop} (e:(pure a:M α) st=some (b,st')) (h:P a st):P b st':=have q:=cL (aF (show some (a,st)=some (b,st') from e));q.1▸q.2▸h
theorem fB {c:Bool} {f:Unit->M β} {b:β} {P:Prop} (e:(dK c>>=f) st=some (b,st')) (k:c=true->f () st=some (b,st')->P):P:=by
 cases c with
 | true=>exact k rfl e
 | false=>exact cC e
theorem mU {o:Option α} {f:α->M β} {b:β} {P:Prop} (e:(fI o>>=f) st=some (b,st')) (k:∀a,o=some a->f a st=some (b,st')->P):P:=by
 cases o with
 | some a=>exact k a rfl e
 | none=>exact cC e
theorem Ae {o:Option α} {b:α} (e:fI o st=some (b,st')):o=some b/\st=st':=by
 cases o with
 | some a=>exact (cL (aF (show some (a,st)=some (b,st') from e))).imp (congrArg some) id
 | none=>exact cC e
theorem Jw {g:aE->Option α} {v:V} {f:α->M β} {b:β} {P:Prop} (e:(ofD g v>>=f) st=some (b,st')) (k:∀x a,v= .d x->g x=some a->f a st=some (b,st')->P):P:=by
 cases v with
 | d x=>exact mU e λa h e=>k x a rfl h e
 | _=>exact cC e
theorem aAt {g:aE->Option α} {v:V} {b:α} {P:Prop} (e:ofD g v st=some (b,st')) (k:∀x,v= .d x->g x=some b->st=st'->P):P:=by
 cases v with
 | d x=>exact k x rfl (Ae e).1 (Ae e).2
 | _=>exact cC e
theorem Eb {v:V} {f:aE->M β} {b:β} {P:Prop} (e:(toD v>>=f) st=some (b,st')) (k:∀x,v= .d x->f x st=some (b,st')->P):P:=by
 cases v with
 | d x=>exact k x rfl e
 | _=>exact cC e
theorem Kk {x:aE} {i:Int} (e:Uf x=some i):x= .int i:=by
 cases x with
 | int j=>exact congrArg mE (aF e)
 | _=>exact cC e
theorem ES {x:aE} {i:Bool} (e:RN x=some i):x= .bool i:=by
 cases x with
 | bool j=>exact congrArg PyData.bool (aF e)
 | _=>exact cC e
theorem RM {x:aE} {i:Str} (e:YM x=some i):x= .str i:=by
 cases x with
 | str j=>exact congrArg Pt (aF e)
 | _=>exact cC e
theorem Vx {x:aE} {l:List aE} (e:BQ x=some l):x= .tuple l:=by
 cases x with
 | tuple j=>exact congrArg rO (aF e)
 | _=>exact cC e
theorem BS {x:aE} {l:List aE} (e:LE x=some l):x= .list l:=by
 cases x with
 | list j=>exact congrArg Dk (aF e)
 | _=>exact cC e
theorem BR {x:aE} {l:List aE} (e:Kj x=some l):x= .tuple l\/x= .list l:=by
 cases x with
 | list j=>exact .inr (congrArg Dk (aF e))
 | tuple j=>exact .inl (congrArg rO (aF e))
 | _=>exact cC e
theorem pA {v:V} {f:Int->M β} {b:β} {P:Prop} (e:(toInt v>>=f) st=some (b,st')) (k:∀i,v= .d (.int i)->f i st=some (b,st')->P):P:=Jw e λx i h g e=>k i (Kk g▸h) e
theorem xI {g:O->Option α} {r:Nat} {f:α->M β} {b:β} {P:Prop} (e:(De g r>>=f) st=some (b,st')) (k:∀o a,(r,o)∈st.objs->g o=some a->f a st=some (b,st')->P):P:=by
 refine cE e λa s e1 e2=>cE e1 λo s' e3 e4=> ?_
 have q:∃o',mC st.objs r=some o'/\(o',st)=(o,s'):=bO.mp e3
 refine q.elim λo' q=> ?_
 have q4:=Ae e4
 have q2:=cL q.2
 exact k o a (q2.1▸Ft q.1) q4.1 ((q2.2.trans q4.2).symm▸e2)
theorem QS {r:Nat} {f:O->M β} {b:β} {P:Prop} (e:(EL r>>=f) st=some (b,st')) (k:∀o,(r,o)∈st.objs->f o st=some (b,st')->P):P:=by
 refine cE e λo s' e3 e2=> ?_
 have q:∃o',mC st.objs r=some o'/\(o',st)=(o,s'):=bO.mp e3
 refine q.elim λo' q=> ?_
 have q2:=cL q.2
 exact k o (q2.1▸Ft q.1) (q2.2▸e2)
theorem IB {v u:V} {f:Int->Int->M V} {b:V} {P:Prop} (e:Kf v u f st=some (b,st')) (k:∀i j,v= .d (.int i)->u= .d (.int j)->f i j st=some (b,st')->P):P:=pA e λi h e=>pA e λj g e=>k i j h g e
end
structure Rm (A:dT) (n:Nat):Prop where
 handled:A.handled=none
 depth:A.depth+n<=900
 units:A.units+20*n+200<=cLine
theorem Rm.less {A:dT} {n m:Nat} (R:Rm A n) (h:m<=n):Rm A m:=⟨R.handled,aB (bE h _) R.depth,aB (cW (bE (fK _ h) _) _) R.units⟩
theorem Rm.un {A:dT} {n d:Nat} (R:Rm A n) (h:d<200):A.units+d<cLine:=bA (vH h _) (aB (cW (aS _ _) _) R.units)
section
variable {α β γ δ:Type} (G:Gr) (A:dT)
noncomputable def RR (k:List It) (m:M α) (t:Sem β) (R:α->β->List It):Prop:=∀st a st',m st=some (a,st')->∀s E,Inv G st k s->aO (model G.p G.w) A t (λb s'=>Inv G st' (R a b) s') E s
end
section
variable {α β γ δ:Type} {G:Gr} {A:dT} {k k':List It} {m:M α} {t:Sem β} {R:α->β->List It} {st st':St} {s:aK} {E:aG->aK->Prop}
theorem RR.go {a:α} {Q:β->aK->Prop} (S:RR G A k m t R) (e:m st=some (a,st')) (I:Inv G st k s) (c:∀b s',Inv G st' (R a b) s'->Q b s'):aO (model G.p G.w) A t Q E s:=gN (S st a st' e s E I) c λY Y e=>e
theorem Inv.at {h:Heap} {tk:Nat} {mu:List Addr} (I:Iv G st k h mu):Inv G st k (G.at h tk):=⟨h,tk,mu,rfl,I⟩
theorem Inv.elim {P:aK->Prop} (I:Inv G st k s) (f:∀h tk mu,Iv G st k h mu->P (G.at h tk)):P s:=aU I λh I=>aU I λtk I=>aU I λmu I=>I.1▸f h tk mu I.2
theorem Inv.sub (I:Inv G st k s) (l:k'.Sublist k):Inv G st k' s:=Inv.elim I λY Y Y I=>Inv.at (I.sub l)
theorem RR.of (f:∀st a st' h tk mu,m st=some (a,st')->Iv G st k h mu->∀E (Q:β->aK->Prop),(∀b h' tk' mu',Iv G st' (R a b) h' mu'->Q b (G.at h' tk'))->aO (model G.p G.w) A t Q E (G.at h tk)):RR G A k m t R:=λst a st' e Y Y I=>Inv.elim I λh tk mu I=>f st a st' h tk mu e I _ _ λY Y Y Y I=>Inv.at I
noncomputable def Calm (G:Gr) (A:dT) (h:Heap) (σ:Wd) (v:V) (t:Sem aG):Prop:=∀tk E (Q:aG->aK->Prop),(∀w h' tk',cU [] h h'->Rep G h' σ v w->Q w (G.at h' tk'))->aO (model G.p G.w) A t Q E (G.at h tk)
noncomputable def Cm (G:Gr) (A:dT) (st:St) (h:Heap) (σ:Wd) (t:Sem aG) (v:V) (st':St):Prop:=st=st'/\Calm G A h σ v t
theorem RR.calm {m:M V} {t:Sem aG} (f:∀st v st' h mu,m st=some (v,st')->Iv G st k h mu->Cm G A st h ⟨mu,bP k⟩ t v st'):RR G A k m t (λv w=> .v v w::k):=RR.of λst a st' h tk mu e I E Q q=>(f st a st' h mu e I).2 tk E Q λw h' tk' kp r=>q w h' tk' mu ((f st a st' h mu e I).1▸I.val kp r)
theorem Iv.has {h:Heap} {mu:List Addr} {v:V} {w:aG} (I:Iv G st k h mu) (m:It.v v w∈k):Rep G h ⟨mu,bP k⟩ v w:=I.uJ _ m
end
section
variable {α β:Type} {G:Gr} {A:dT} {k:List It} {st st':St} {h:Heap} {σ:Wd} {mu:List Addr} {v:V} {w w1 w2:aG}
theorem lX:bW+1<=sizeLine:=by decide
noncomputable def LstAt (h:Heap) (σ:Wd) (l:List aE) (w:aG):Prop:=∃a ws,w= .ref a/\h.IsList a ws/\jM h σ.out l ws.toList/\l.length<=bW
noncomputable def Fb (h:Heap) (σ:Wd) (l:List aE) (w:aG):Prop:=∃a ws,w= .ref a/\(h.IsTuple a ws\/h.IsList a ws)/\jM h σ.out l ws.toList/\l.length<=bW
theorem LstAt.seq {l:List aE} (r:LstAt h σ l w):Fb h σ l w:=r.imp λY r=>r.imp λY r=>⟨r.1,.inr r.2.1,r.2.2⟩
theorem Dt.lst {P:Addr->Prop} {l:List aE} (r:Dt h P (.list l) w):∃a ws,w= .ref a/\h.IsList a ws/\jM h P l ws.toList/\l.length<=bW:=Mr.elim r λa vs z e s d=>s.elim λo n Y g c d' Y=>⟨a,vs,e,⟨o,g,c,n,d'⟩,d,z⟩
theorem Dt.tup {P:Addr->Prop} {l:List aE} (r:Dt h P (.tuple l) w):∃a ws,w= .ref a/\h.IsTuple a ws/\jM h P l ws.toList/\l.length<=bW:=Mr.elim r λa vs z e s d=>s.elim λo n Y g c d' Y=>⟨a,vs,e,⟨o,g,c,n,d'⟩,d,z⟩
theorem Rep.d' {x:aE} (r:Rep G h σ v w) (e:v= .d x):Dt h σ.out x w:=(congrArg (Rep G h σ · w) e).mp r
theorem HD {o:O} {l:List aE} {a:Addr} (e:oLst o=some l) (r:Kv G h σ a o):sU h σ a l:=by
 cases o with
 | list m=>exact aF e▸r
 | sJ m=>exact aF e▸r
 | _=>exact cC e
theorem sU.lst {a:Addr} {l:List aE} (r:sU h σ a l):LstAt h σ l (.ref a):=r.elim λws r=>r.elim λn r=>⟨a,ws,rfl,⟨_,r.1,rfl,n,rfl⟩,r.2.1,r.2.2⟩
theorem Iv.obj {r:Nat} {o:O} (I:Iv G st k h mu) (m:(r,o)∈st.objs) (q:Rep G h ⟨mu,bP k⟩ (.ref r) w):∃a,w= .ref a/\mu[r]? =some a/\Kv G h ⟨mu,bP k⟩ a o:=(I.objs r o m).elim λa x=>q.elim λb y=>⟨a,y.2.trans (congrArg pM (aF (y.1.symm.trans x.1))),x⟩
theorem PP {f:List aE->M β} {b:β} {P:Prop} (I:Iv G st k h mu) (q:Rep G h ⟨mu,bP k⟩ v w) (e:(No v>>=f) st=some (b,st')) (c:∀l,LstAt h ⟨mu,bP k⟩ l w->f l st=some (b,st')->P):P:=by
 cases v with
 | d x=>exact mU e λl g e=>c l (Dt.lst (BS g▸q)) e
 | ref r=>exact xI e λo l m g e=>(I.obj m q).elim λa y=>c l (y.1▸(HD g y.2.2).lst) e
 | _=>exact cC e
theorem NO {f:List aE->M β} {b:β} {P:Prop} (I:Iv G st k h mu) (q:Rep G h ⟨mu,bP k⟩ v w) (e:(Uv v>>=f) st=some (b,st')) (c:∀l,Fb h ⟨mu,bP k⟩ l w->f l st=some (b,st')->P):P:=by
 cases v with
 | d x=>exact mU e λl g e=>(BR g).elim (λg=>c l (Dt.tup (g▸q) |>.imp λY r=>r.imp λY r=>⟨r.1,.inl r.2.1,r.2.2⟩) e) λg=>c l (LstAt.seq (Dt.lst (g▸q))) e
 | ref r=>exact xI e λo l m g e=>(I.obj m q).elim λa y=>c l (y.1▸(HD g y.2.2).lst.seq) e
 | _=>exact cC e
theorem Fi {a:Addr} (I:Iv G st k h mu) (e:h.objs.size<=a):Wd.out ⟨mu,bP k⟩ a:=⟨λx=>absurd (I.lo a (aL _ x)).2 (fG.mpr e),λx=>absurd (I.lo a (aQ _ x)).2 (fG.mpr e)⟩
theorem OU {a:Addr} {o:Obj} (I:Iv G st k h mu) (e:G.h.get? a=some o):Wd.out ⟨mu,bP k⟩ a:=⟨λx=>absurd (dG e) (fG.mpr (I.lo a (aL _ x)).1),λx=>absurd (dG e) (fG.mpr (I.lo a (aQ _ x)).1)⟩
theorem Iv.Sr {h':Heap} {xs:List aE} {ws:List aG} (I:Iv G st k h mu) (kp:cU [] h h') (d:jM h (Wd.out ⟨mu,bP k⟩) xs ws):jM h' (Wd.out ⟨mu,bP k⟩) xs ws:=(I.keep kp).Sr d
theorem GP {P:Addr->Prop} {xs:List aE} {ws:List aG} {c:String} (p:P h.objs.size) (d:jM (h.push {cls:= .type c,data:= .seq ws.toArray}) P xs ws) (z:xs.length<=bW):
  Mr (h.push {cls:= .type c,data:= .seq ws.toArray}) P c xs.length (jM (h.push {cls:= .type c,data:= .seq ws.toArray}) P xs) (.ref h.objs.size):=⟨z,_,_,rfl,⟨p,_,0,bC _ rfl,rfl,rfl,λY=>rfl⟩,d⟩
theorem Iv.Xr {xs:List aE} {ws:List aG} (I:Iv G st k h mu) (d:jM h (Wd.out ⟨mu,bP k⟩) xs ws) (z:xs.length<=bW):Rep G (h.push {cls:= .type "list",data:= .seq ws.toArray}) ⟨mu,bP k⟩ (.d (.list xs)) (.ref h.objs.size):=GP (Fi I (bM _)) (I.Sr (.push _ _) d) z
theorem Iv.Os {xs:List aE} {ws:List aG} (I:Iv G st k h mu) (d:jM h (Wd.out ⟨mu,bP k⟩) xs ws) (z:xs.length<=bW):Rep G (h.push {cls:= .type "tuple",data:= .seq ws.toArray}) ⟨mu,bP k⟩ (.d (.tuple xs)) (.ref h.objs.size):=GP (Fi I (bM _)) (I.Sr (.push _ _) d) z
theorem rF {t:Sem aG} (f:∀tk E (Q:aG->aK->Prop),(∀w tk',Rep G h σ v w->Q w (G.at h tk'))->aO (model G.p G.w) A t Q E (G.at h tk)):Calm G A h σ v t:=λtk E Q q=>f tk E Q λw tk' r=>q w h tk' (.refl h) r
noncomputable def aHi (G:Gr) (A:dT) (t:aG->aG->Sem aG) (i j n:Int):Prop:=∀tk a b E (Q:aG->aK->Prop) h,(∀t tk',Q (.int n t) (G.at h tk'))->aO (model G.p G.w) A (t (.int i a) (.int j b)) Q E (G.at h tk)
theorem aHi.calm {t:aG->aG->Sem aG} {i j n:Int} {P P':Addr->Prop} (T:aHi G A t i j n) (r1:Dt h P (.int i) w1) (r2:Dt h P' (.int j) w2):Calm G A h σ (.d (.int n)) (t w1 w2):=rF λtk E Q q=>r1.elim λa e=>r2.elim λb e'=>by rw [e,e'];exact T tk a b E Q h λt tk'=>q _ tk' ⟨t,rfl⟩
theorem Qn {a:Int} (g:small a=true):Builtin.Int.intBits a<=64:=by
 have g:a.natAbs<2^60:=of_decide_eq_true g
 show (if a==0 then 0 else a.natAbs.log2+1)<=64
 split
 ·exact fJ _
 ·rename_i hz
  exact aB ((Mz λe=>hz (beq_iff_eq.mpr (wR.mp e))).mpr g) (by decide)
theorem two_mul {i j:Int} (g:(small i||small j)=true):aHi G A (binaryOp .Mult) i j (i*j):=λY Y Y Y Y h q=>mul_int (q _ _) ((gY.mp g).elim (λg=> .of_left (Qn g)) λg=> .of_right (Qn g))
theorem two_fdiv {i j:Int} (g:j≠0) (g':small j=true):aHi G A (binaryOp .FloorDiv) i j (i.fdiv j):=λY Y Y Y Y h q=>floordiv_int g (q _ _) (.inl (PyProof.noPylong_of_log2 (bA ((Mz λe=>g (wR.mp e)).mpr (of_decide_eq_true g')) (by decide))))
theorem two_pow {j:Int} (g:0<=j/\j<=1000):aHi G A (binaryOp .Pow) 10 j (10^j.toNat):=λY Y Y Y Y h q=>pow_int_small g.1 (aD g.2 (by decide)) (by decide) (q _ _)
theorem Rb {o:Obj} {c:aG} {d:Data} (hc:o.cls=c) (hd:o.data=d):o=⟨c,o.dict,d,o.slots⟩:=by rw [<-hc,<-hd]
theorem ZW {a b:Addr} {ws vs:Array aG} {E:aG->aK->Prop} {s:aK} {Q:aG->aK->Prop} (ha:s.heap.IsList a ws) (hb:s.heap.IsList b vs)
  (h:Q (.ref s.heap.objs.size) {s with heap:=s.heap.push {cls:= .type "list",data:= .seq (ws.toList++vs.toList).toArray}}) (hz:ws.toList.length+vs.toList.length<=sizeLine):
  aO (model G.p G.w) A (binaryOp .Add (.ref a) (.ref b)) Q E s:=by
 refine ha.elim λo r=>r.2.2.elim λn d=>hb.elim λo2 r2=>r2.2.2.elim λn2 d2=> ?_
 have ho:=r.1.trans (congrArg some (Rb r.2.1 d))
 have ho2:=r2.1.trans (congrArg some (Rb r2.2.1 d2))
 rw [<-vL,iG] at h
 exact concat_meets (T:="list") ⟨_,ho,rfl⟩ ⟨_,ho2,rfl⟩ noFill_list_add seq_list_add F.slot_list_add F.entry_list_add (F.args_list_add_2 _ _) (list_addW a b ws vs n n2 o.dict o2.dict o.slots o2.slots hz) ⟨ho,ho2,h⟩
theorem ZV {a b:Addr} {ws vs:Array aG} {E:aG->aK->Prop} {s:aK} {Q:aG->aK->Prop} (ha:s.heap.IsTuple a ws) (hb:s.heap.IsTuple b vs)
  (h0:ws.toList=[]->Q (.ref b) s) (h1:vs.toList=[]->Q (.ref a) s)
  (h2:Q (.ref s.heap.objs.size) {s with heap:=s.heap.push {cls:= .type "tuple",data:= .seq (ws.toList++vs.toList).toArray}}) (hz:ws.toList.length+vs.toList.length<=sizeLine):
  aO (model G.p G.w) A (binaryOp .Add (.ref a) (.ref b)) Q E s:=by
 refine ha.elim λo r=>r.2.2.elim λn d=>hb.elim λo2 r2=>r2.2.2.elim λn2 d2=> ?_
 have ho:=r.1.trans (congrArg some (Rb r.2.1 d))
 have ho2:=r2.1.trans (congrArg some (Rb r2.2.1 d2))
 rw [<-vL,iG] at h2
 have go {S:PySem.Spec} (g:Meets (Builtin.«tuple.__add__» ⟨[.ref a,.ref b],[]⟩) S) (h:S A (wants Q E) s):aO (model G.p G.w) A (binaryOp .Add (.ref a) (.ref b)) Q E s:=concat_meets (T:="tuple") (show s.TypeIs (.ref a) "tuple" from ⟨_,ho,rfl⟩) (show s.TypeIs (.ref b) "tuple" from ⟨_,ho2,rfl⟩) noFill_tuple_add seq_tuple_add PySem.F.slot_tuple_add PySem.F.entry_tuple_add (PySem.F.args_tuple_add_2 _ _) g h
 by_cases hv:ws.isEmpty=true
 ·exact go (tuple_addW0 a b ws vs n n2 o.dict o2.dict o.slots o2.slots hv) ⟨ho,ho2,h0 (zW.mpr (Jl.mp hv))⟩
 ·by_cases hw:vs.isEmpty=true
  ·exact go (tuple_addW1 a b ws vs n n2 o.dict o2.dict o.slots o2.slots hv hw) ⟨ho,ho2,h1 (zW.mpr (Jl.mp hw))⟩
  ·exact go (tuple_addW2 a b ws vs n n2 o.dict o2.dict o.slots o2.slots hv hw hz) ⟨ho,ho2,h2⟩
theorem NE {α β:Type} {a b:List α} {x y:List β} (l1:a.length=x.length) (l2:b.length=y.length) (g:x.length+y.length<=bW):a.length+b.length<=sizeLine:=l1▸l2▸aB g (aB (bJ _) lX)
theorem SI {x y:List aE} (I:Iv G st k h mu) (a:LstAt h ⟨mu,bP k⟩ x w1) (b:LstAt h ⟨mu,bP k⟩ y w2) (g:x.length+y.length<=bW):Calm G A h ⟨mu,bP k⟩ (.d (.list (x++y))) (binaryOp .Add w1 w2):=λtk E Q q=>by
 refine a.elim λa r=>r.elim λws r=>b.elim λb r'=>r'.elim λvs r'=> ?_
 rw [r.1,r'.1]
 exact ZW (s:=G.at h tk) r.2.1 r'.2.1 (q _ _ tk (.push _ _) (I.Xr (r.2.2.1.app r'.2.2.1) (by rw [aN];exact g))) (NE r.2.2.1.len r'.2.2.1.len g)
theorem SG {x y:List aE} (I:Iv G st k h mu) (a:Dt h (Wd.out ⟨mu,bP k⟩) (.tuple x) w1) (b:Dt h (Wd.out ⟨mu,bP k⟩) (.tuple y) w2) (g:x.length+y.length<=bW):Calm G A h ⟨mu,bP k⟩ (.d (.tuple (x++y))) (binaryOp .Add w1 w2):=λtk E Q q=>by
 refine (Dt.tup a).elim λc r=>r.elim λws r=>(Dt.tup b).elim λd r'=>r'.elim λvs r'=> ?_
 rw [r.1,r'.1]
 refine ZV (s:=G.at h tk) r.2.1 r'.2.1 (λe=>q _ h tk (.refl h) ?_) (λe=>q _ h tk (.refl h) ?_) (q _ _ tk (.push _ _) (I.Os (r.2.2.1.app r'.2.2.1) (by rw [aN];exact g))) (NE r.2.2.1.len r'.2.2.1.len g)
 ·rw [jS (r.2.2.1.len.symm.trans (congrArg oW e)),<-r'.1];exact b
 ·rw [jS (r'.2.2.1.len.symm.trans (congrArg oW e)),cN,<-r.1];exact a
theorem DW {β:Type} {n:Nat} {f:Unit->M β} {b:β} {P:Prop} (e:(Uy n>>=f) st=some (b,st')) (c:n<=bW->f () st=some (b,st')->P):P:=fB e λg e=>c (of_decide_eq_true g) e
theorem vE {P:V->St->Prop} {u:V} (e:(pure u:M V) st=some (v,st')) (c:P u st):P v st':=pureE e c
noncomputable def WA (o:Op):Operator:=match o with
 | .add=> .Add
 | .sub=> .Sub
 | .mul=> .Mult
 | .fdiv=> .FloorDiv
 | .mod=> .Mod
 | .pow=> .Pow
theorem FD {o:Op} {v1 v2:V} (I:Iv G st k h mu) (r1:Rep G h ⟨mu,bP k⟩ v1 w1) (r2:Rep G h ⟨mu,bP k⟩ v2 w2) (e:binOp o v1 v2 st=some (v,st')):Cm G A st h ⟨mu,bP k⟩ (binaryOp (WA o) w1 w2) v st':=by
 have two {f:Int->Int->M V} {t:aG->aG->Sem aG} (e:Kf v1 v2 f st=some (v,st')) (T:∀i j,f i j st=some (v,st')->∃n,aHi G A t i j n/\f i j st=some (.d (.int n),st)):Cm G A st h ⟨mu,bP k⟩ (t w1 w2) v st':=
  IB e λi j e1 e2 e=>(T i j e).elim λn T=>by
   have q:=cL (aF (T.2.symm.trans e))
   rw [<-q.1]
   exact ⟨q.2,T.1.calm (P:=Wd.out ⟨mu,bP k⟩) (P':=Wd.out ⟨mu,bP k⟩) (r1.d' e1) (r2.d' e2)⟩
 cases o with
 | add=>
  have cat (e:(do let x<-No v1;let y<-No v2;Uy (x.length+y.length);pure (.d (.list (x++y))):M V) st=some (v,st')):Cm G A st h ⟨mu,bP k⟩ (binaryOp (WA .add) w1 w2) v st':=PP I r1 e λx a e=>PP I r2 e λy b e=>DW e λg e=>vE e ⟨rfl,SI I a b g⟩
  cases v1 with
  | d x=>cases x with
   | int i=>exact pA e λj e2 e=>vE e ⟨rfl,aHi.calm (t:=binaryOp .Add) (P:=Wd.out ⟨mu,bP k⟩) (λY Y Y Y Y h q=>wpAny_add_int (q _ _)) r1 (r2.d' e2)⟩
   | tuple x=>exact Jw e λy l e1 e2 e=>DW e λg e=>vE e ⟨rfl,SG I r1 (r2.d' (e1.trans (congrArg V.d (Vx e2)))) g⟩
   | _=>exact cat e
  | _=>exact cat e
 | sub=>exact two (t:=binaryOp .Sub) e λi j e=>⟨_,λY Y Y Y Y h q=>sub_int' (q _ _),rfl⟩
 | mul=>exact two (t:=binaryOp .Mult) e λi j e=>fB e λg e=>⟨_,two_mul g,by show (dK _>>=_) st=_;rw [g];rfl⟩
 | fdiv=>exact two (t:=binaryOp .FloorDiv) e λi j e=>fB e λg e=>⟨_,two_fdiv (of_decide_eq_true (aM.mp g).1) (aM.mp g).2,by show (dK _>>=_) st=_;rw [g];rfl⟩
 | mod=>exact two (t:=binaryOp .Mod) e λi j e=>fB e λg e=>⟨_,λY Y Y Y Y h q=>mod_int' (of_decide_eq_true g) (q _ _),by show (dK _>>=_) st=_;rw [g];rfl⟩
 | pow=>exact two (t:=binaryOp .Pow) e λi j e=>fB e λg e=>⟨_,(of_decide_eq_true g).1▸two_pow (of_decide_eq_true g).2,by show (dK _>>=_) st=_;rw [g,(of_decide_eq_true g).1];rfl⟩
theorem aDl {o:Op} {v1 v2:V} (m1:It.v v1 w1∈k) (m2:It.v v2 w2∈k):RR G A k (binOp o v1 v2) (binaryOp (WA o) w1 w2) (λv w=> .v v w::k):=RR.calm λY Y Y Y Y e I=>FD I (I.has m1) (I.has m2) e
end
structure Base (G:Gr):Prop where
 MF:G.K.In G.h
 get:∀c,plainGet G.K (G.cl c) ""=true
 QO:∀c,hasDictIn G.K (G.cl c)=true
 VC:∀c,findIn G.K (.ref (G.cl c)) "__setattr__"=some (some (.builtin "object.__setattr__"))
 over:∀c,plainOver G.K (G.cl c)=true
 own:∀c x,attrOk c x=true->findIn G.K (.ref (G.cl c)) (Nm.str x)=some none
 g:G.h.Ns mainGlobals G.mg
 b:G.h.Ns builtinsNs G.mb
 nolimit:G.h.NoLimit
 Ta:∀x:String,x∈["len","abs","int","min","max","sum","sorted","set","tuple","dict","range","zip","isinstance","bool"]->G.mg (aZ x)=none
 aGm:∀x:String,x∈["len","abs","min","max","sum","sorted","isinstance"]->G.mb (aZ x)=some (.builtin x)
 FI:∀x:String,x∈["int","set","tuple","dict","range","zip","bool"]->G.mb (aZ x)=some (.type x)
 aLj:∀x v,Nq x=some v->∃w,G.mg (Nm.str x)=some w/\Rep G G.h ⟨[],[]⟩ v w
section
variable {α β:Type} {G:Gr} {A:dT} {k:List It} {st st':St} {h:Heap} {σ:Wd} {mu:List Addr} {v:V} {w w1 w2:aG} {E:aG->aK->Prop} {s:aK}
theorem Base.big (B:Base G) {a:Addr} (h:G.h.objs.size<=a):(a==sysModules)=false:=beq_false_of_ne λe=>qG a (bA (lS (e▸(by decide:sysModules<mainGlobals)) B.g.lt) h)
theorem Rm.aPh {n d:Nat} (R:Rm A n) (h:d<=50):A.units+1+d<cLine:=by rw [bL];exact R.un (aX (bE h 1) (by decide))
theorem AI (lo hi i:Int):(xU lo hi 1 i).isSome=(decide (lo<=i)&&decide (i<hi)):=by
 show (if ((decide (lo<=i)&&decide (i<hi))&&(i - lo)%1==0)=true then some ((i - lo) / 1) else none).isSome=_
 rw [Int.emod_one]
 generalize (decide (lo<=i)&&decide (i<hi))=b
 cases b<;>rfl
theorem AP {r:Addr} {lo hi i:Int} {t u v tk:Tok} {Q:aG->aK->Prop} (hr:IsRange s.heap r lo hi 1 t u v)
  (h:Q (.bool (!(decide (lo<=i)&&decide (i<hi)))) s):aO (model G.p G.w) A (compareOp .NotIn (.int i tk) (.ref r)) Q E s:=by
 have hT:s.TypeIs (.ref r) "range":=⟨_,hr,rfl⟩
 rw [<-AI] at h
 show aO _ _ (do return .bool (!(<-contains (.ref r) (.int i tk)))) Q E s
 refine aA ?_
 unfold contains
 try with_reducible refine bX ?_
 refine aA (iT hT sN.lookup ?_)
 show aO _ _ (if (some (yT "range.__contains__")==some jD)=true then _ else _) _ E s
 rw [if_neg (by rw [zK];exact cP)]
 refine aA (wpAny_callSpecialUnlessNone?_slot (name:=aZ "__contains__") hT sN
  (fO sN hT F.entry_range_contains ?_ (F.args_range_contains_2 _ _)))
 show aO _ _ (rule _>>=λY=>xV (.ref r)>>=_) _ _ s
 refine aA (nE (aA ?_))
 unfold xV
 refine aA (iU hr rfl (x:= .int lo t) rfl (aA (aH ?_)))
 refine aA (iU hr rfl (x:= .int hi u) rfl (aA (aH ?_)))
 refine aA (iU hr rfl (x:= .int 1 v) rfl (aA (aH (aH ?_))))
 show aO _ _ (ret (.bool (xU lo hi 1 i).isSome)) _ _ _
 exact aH ⟨_,rfl,wpAny_truthy_bool (aH h)⟩
theorem Ap {b:Bool} {t:Sem aG} (f:∀tk E (Q:aG->aK->Prop),(∀tk',Q (.bool b) (G.at h tk'))->aO (model G.p G.w) A t Q E (G.at h tk)):Calm G A h σ (.d (.bool b)) t:=λtk E Q q=>f tk E Q λtk'=>q _ h tk' (.refl h) rfl
theorem Ca {b:Bool} {t:Sem aG} (e:nT b st=some (v,st')) (f:∀tk E (Q:aG->aK->Prop),(∀tk',Q (.bool b) (G.at h tk'))->aO (model G.p G.w) A t Q E (G.at h tk)):Cm G A st h σ t v st':=vE e ⟨rfl,Ap f⟩
theorem Yg {P:Addr->Prop} {x:aE} (d:Dt h P x w):Dt h Ar x w:=(Ki λY Y Y e=>⟨trivial,e⟩).1 _ _ d
theorem YG {P:Addr->Prop} {x:List aE} {w:List aG} (d:jM h P x w):jM h Ar x w:=(Ki λY Y Y e=>⟨trivial,e⟩).2 _ _ d
theorem Ym {f:aE->M β} {b:β} {P:Prop} (I:Iv G st k h mu) (q:Rep G h ⟨mu,bP k⟩ v w) (e:(Su v>>=f) st=some (b,st')) (c:∀x,Dt h Ar x w->f x st=some (b,st')->P):P:=by
 cases v with
 | d x=>exact c x (Yg q) e
 | ref r=>exact cE e λx s e1 e2=>xI e1 λo l m g e=>(I.obj m q).elim λa y=>pureE (P:=λx s=>f x s=some (b,st')->P) e (λe=>c (.list l) ((HD g y.2.2).elim λws r=>r.elim λn r=>⟨r.2.2,a,ws,y.1,⟨trivial,_,n,r.1,rfl,rfl,λe=>nomatch e⟩,YG r.2.1⟩) e) e2
 | _=>exact cC e
theorem YY {l:List aE} {x:aE} {n:Nat} (R:Rm A n) (a:Dt h σ.out x w1) (b:Fb h σ l w2) (g:okIn l x=true):Calm G A h σ (.d (.bool (l.any λy=>dC y x))) (compareOp .In w1 w2):=Ap λtk E Q q=>
 (nS.1 _ _ a).elim λY p=>b.elim λa r=>r.elim λws r=>(nS.2 _ _ r.2.2.1).elim λY p'=>by
  have u:=R.aPh (of_decide_eq_true g)
  rw [r.1]
  exact r.2.1.elim (λs=>s.elim λo s=>s.2.2.elim λn s'=>SeqAt.in_tuple_reads (s:=G.at h tk) (.tuple s.1 s.2.1 s' p'.1) p.1 p'.2.2 p.2.2 u (q _)) λs=>s.elim λo s=>s.2.2.elim λn s'=>SeqAt.in_list_reads (s:=G.at h tk) (.list s.1 s.2.1 s' p'.1) p.1 p'.2.2 p.2.2 u (q _)
theorem CA {l:List aE} {x:aE} {n:Nat} (R:Rm A n) (a:Dt h σ.out x w1) (b:LstAt h σ l w2) (g:okIn l x=true):Calm G A h σ (.d (.bool (!l.any λy=>dC y x))) (compareOp .NotIn w1 w2):=Ap λtk E Q q=>
 (nS.1 _ _ a).elim λY p=>b.elim λa r=>r.elim λws r=>(nS.2 _ _ r.2.2.1).elim λY p'=>by
  rw [r.1]
  exact r.2.1.elim λo s=>s.2.2.elim λn s'=>SeqAt.notIn_list_reads (s:=G.at h tk) (.list s.1 s.2.1 s' p'.1) p.1 p'.2.2 p.2.2 (R.aPh (of_decide_eq_true g)) (q _)
theorem aHt {x:aE} {l:List aE} {f:Bool->M β} {b:β} {P:Prop} (e:(inD x l>>=f) st=some (b,st')) (c:okIn l x=true->f (l.any λy=>dC y x) st=some (b,st')->P):P:=cE e λY Y e1 e2=>fB e1 λg e=>pureE (P:=λt s=>f t s=some (b,st')->P) e (c g) e2
theorem Xv {x:aE} (g:keyOk x=true):isTup x=true/\Gk x=true/\x.depth<=6:=by
 have g:=aM.mp g
 exact ⟨(aM.mp g.1).1,(aM.mp g.1).2,of_decide_eq_true g.2⟩
theorem Wf {P:Addr->Prop} {x:aE} (t:isTup x=true) (d:Dt h P x w):∃a,w= .ref a:=by
 cases x with
 | tuple l=>exact (Dt.tup d).imp λa r=>r.elim λY r=>r.1
 | _=>exact lH t
open Classical in
theorem Yf {x:aE} (kx:Gk x=true) (kvs:List (aE×aE)):∀xs,dZ (aIc h σ) kvs xs->Cd (λy (p:Addr×aG)=>Dt h σ.out y p.2) (tI kvs x) (atKey xs (norm x)):=
 dR (motive:=λkvs=>∀xs,dZ (aIc h σ) kvs xs->Cd (λy (p:Addr×aG)=>Dt h σ.out y p.2) (tI kvs x) (atKey xs (norm x))) (λxs r=>by rw [show xs=[] from r];exact .none)
  (λp kvs i xs r=>r.elim λq ys e a b=>by
   have t:dC p.1 x=decide (q.1=norm x):=by rw [IN a.y kx,a.n]
   have i:=i ys b
   unfold tI atKey at i⊢
   rw [e,eB,eB,t]
   cases decide (q.1=norm x)
   ·exact i
   ·exact .some a.v) kvs
theorem Cd.is {γ:Type} {R:α->γ->Prop} {x:Option α} {y:Option γ} (r:Cd R x y):x.isSome=y.isSome:=by cases r<;>rfl
open Classical in
theorem LP {x:aE} {n r:Nat} {kvs:List (aE×aE)} (B:Base G) (R:Rm A n) (I:Iv G st k h mu) (a:Dt h (Wd.out ⟨mu,bP k⟩) x w1) (b:Rep G h ⟨mu,bP k⟩ (.ref r) w2) (m:(r,O.dt kvs)∈st.objs) (g:keyOk x=true):
  Calm G A h ⟨mu,bP k⟩ (.d (.bool (!(tI kvs x).isSome))) (compareOp .NotIn w1 w2):=Ap λtk E Q q=>by
 have g:=Xv g
 refine (I.obj m b).elim λc y=>(Wf g.1 a).elim λt et=>y.2.2.elim λxs z=> ?_
 rw [(Yf g.2.1 kvs xs z.2.1).is] at q
 rw [y.1,et]
 exact wpAny_notIn_heap (s:=G.at h tk) (knd:=keyKind G.p G.w) (by show A.units+1+60<cLine;rw [bL];exact R.un (by decide)) ⟨x,et▸Yg a,g.1,g.2.1,aB g.2.2 (by decide),rfl⟩ (B.big (I.lo c (aL _ (Bv y.2.1))).1) z.1 (q _)
noncomputable def Vy (o:CZ):Pv:=match o with
 | .eq=> .Eq
 | .ne=> .NotEq
 | .lt=> .Lt
 | .le=> .LtE
 | .gt=> .Gt
 | .ge=> .GtE
 | .Oj=> .In
 | .KJ=> .NotIn
 | .is=> .Is
theorem Yo {v1 v2:V} {f:Int->Int->Bool} {t:aG->aG->Sem aG} (r1:Rep G h σ v1 w1) (r2:Rep G h σ v2 w2) (e:Kf v1 v2 (λi j=>nT (f i j)) st=some (v,st')) (T:∀i j a b tk E (Q:aG->aK->Prop),Q (.bool (f i j)) (G.at h tk)->aO (model G.p G.w) A (t (.int i a) (.int j b)) Q E (G.at h tk)):Cm G A st h σ (t w1 w2) v st':=IB e λi j e1 e2 e=>Ca e λtk E Q q=>aU (r1.d' e1) λa e=>aU (r2.d' e2) λb e'=>by rw [e,e'];exact T i j a b tk E Q (q tk)
theorem aGd {v1 v2:V} {n:Nat} (B:Base G) (R:Rm A n) (I:Iv G st k h mu) (r1:Rep G h ⟨mu,bP k⟩ v1 w1) (r2:Rep G h ⟨mu,bP k⟩ v2 w2) (e:nC .KJ v1 v2 st=some (v,st')):Cm G A st h ⟨mu,bP k⟩ (compareOp .NotIn w1 w2) v st':=by
 cases v2 with
 | GW lo hi=>exact pA e λi e1 e=>Ca e λtk E Q q=>(r1.d' e1).elim λt e=>r2.elim λr p=>p.elim λt p=>p.elim λu p=>p.elim λv p=>by rw [e,p.1];exact AP (s:=G.at h tk) p.2.2 (q _)
 | ref r=>
  exact Eb e λx e1 e=>QS e λo m e=>by
   cases o with
   | dt kvs=>exact fB e λg e=>vE e ⟨rfl,LP B R I (r1.d' e1) r2 m g⟩
   | list l=>exact aHt e λg e=>vE e ⟨rfl,(I.obj m r2).elim λa y=>CA R (r1.d' e1) (y.1▸sU.lst y.2.2) g⟩
   | _=>exact cC e
 | d y=>exact Eb e λx e1 e=>mU e λl g e=>aHt e λg' e=>vE e ⟨rfl,CA R (r1.d' e1) (Dt.lst (BS g▸r2)) g'⟩
 | _=>exact cC e
theorem aLs {v1 v2:V} (r1:Rep G h σ v1 w1) (r2:Rep G h σ v2 w2) (e:nC .is v1 v2 st=some (v,st')):Cm G A st h σ (compareOp .Is w1 w2) v st':=by
 cases v1 with
 | ref r=>
  exact Eb e λy e2 e=>by
   cases y with
   | none=>exact Ca e λtk E Q q=>r1.elim λa p=>by rw [p.2,show w2= .none from r2.d' e2];exact is_ref_none (q _)
   | _=>exact cC e
 | d x=>
  exact Eb e λy e2 e=>by
   cases x with
   | none=>cases y with
    | none=>exact Ca e λtk E Q q=>by rw [show w1= .none from r1,show w2= .none from r2.d' e2];exact is_none_none (q _)
    | _=>exact cC e
   | bool a=>
    exact mU e λb g e=>Ca e λtk E Q q=>by
     rw [show w1= .bool a from r1,show w2= .bool b from r2.d' (e2.trans (congrArg V.d (ES g)))]
     exact aH ((show (Aw a==Aw b)=(a==b) by cases a<;>cases b<;>rfl)▸q _)
   | _=>exact cC e
 | _=>exact cC e
theorem SH {o:CZ} {v1 v2:V} {n:Nat} (B:Base G) (R:Rm A n) (I:Iv G st k h mu) (r1:Rep G h ⟨mu,bP k⟩ v1 w1) (r2:Rep G h ⟨mu,bP k⟩ v2 w2) (e:nC o v1 v2 st=some (v,st')):Cm G A st h ⟨mu,bP k⟩ (compareOp (Vy o) w1 w2) v st':=by
 have u {x y:aE} (g:Xd x y=true):A.units+min x.depth y.depth<cLine:=R.un (aX (of_decide_eq_true g) (by decide))
 cases o with
 | eq=>exact Ym I r1 e λx d1 e=>Ym I r2 e λy d2 e=>fB e λg e=>Ca e λtk E Q q=>(nS.1 _ _ d1).elim λY p=>(nS.1 _ _ d2).elim λY p'=>SeqAt.compareEq_reads (s:=G.at h tk) p.1 p'.1 p.2.2 p'.2.2 (u g) (q _)
 | ne=>exact Ym I r1 e λx d1 e=>Ym I r2 e λy d2 e=>fB e λg e=>Ca e λtk E Q q=>(nS.1 _ _ d1).elim λY p=>(nS.1 _ _ d2).elim λY p'=>SeqAt.compareNe_reads (s:=G.at h tk) p.1 p'.1 p.2.2 p'.2.2 (u g) (q _)
 | lt=>exact Yo (t:=compareOp .Lt) r1 r2 e λi j a b tk E Q q=>wpAny_lt_int q
 | le=>exact Yo (t:=compareOp .LtE) r1 r2 e λi j a b tk E Q q=>le_int q
 | gt=>exact Yo (t:=compareOp .Gt) r1 r2 e λi j a b tk E Q q=>gt_int q
 | ge=>exact Yo (t:=compareOp .GtE) r1 r2 e λi j a b tk E Q q=>ge_int q
 | Oj=>exact Eb e λx e1 e=>NO I r2 e λl q e=>aHt e λg e=>vE e ⟨rfl,YY R (r1.d' e1) q g⟩
 | KJ=>exact aGd B R I r1 r2 e
 | is=>exact aLs r1 r2 e
theorem Wv {o:CZ} {v1 v2:V} {n:Nat} (B:Base G) (R:Rm A n) (m1:It.v v1 w1∈k) (m2:It.v v2 w2∈k):RR G A k (nC o v1 v2) (compareOp (Vy o) w1 w2) (λv w=> .v v w::k):=RR.calm λY Y Y Y Y e I=>SH B R I (I.has m1) (I.has m2) e
theorem Ac (m:It.v v w∈k):RR G A k (truthOf v) (truthy w) (λb c=>if b=c then k else [.no]):=RR.of λst a st' h tk mu e I E Q q=>by
 have r:=I.has m
 refine aAt e λx e1 g es=> ?_
 have q {tk}:=q a h tk mu (by rw [if_pos rfl,<-es];exact I)
 have r:=r.d' e1
 cases x with
 | none=>cases g;rw [show w= .none from r];exact aH q
 | bool c=>rw [show w= .bool a from (ES (x:= .bool c) g▸r:Dt h (Wd.out ⟨mu,bP k⟩) (.bool a) w)];exact wpAny_truthy_bool q
 | int i=>cases g;exact r.elim λt e=>by rw [e];exact truthy_int q
 | _=>exact cC g
end
section
variable {α β:Type} {G:Gr} {A:dT} {k:List It} {st st':St} {h h':Heap} {σ:Wd} {mu:List Addr} {v:V} {w w1 w2:aG} {E:aG->aK->Prop} {s:aK} {P:Addr->Prop}
theorem Sh {k:Nat} {i:Int} {j:Nat} (h:Kg k i=some j):j<k/\((0<=i/\i=j)\/(i<0/\i+k=j)):=by
 unfold Kg at h
 split at h
 ·rename_i p
  have e:=iS p.1
  rw [<-aF h]
  exact ⟨fL.mp (e.symm▸p.2),.inl ⟨p.1,e.symm⟩⟩
 ·split at h
  ·rename_i p
   have e:=iS (Ji i▸fM p.2 i:0<=i+k)
   have l:i+k<k:=by have:=Int.add_lt_add_right p.1 (k:Int);rwa [fD] at this
   rw [<-aF h]
   exact ⟨fL.mp (e.symm▸l),.inr ⟨p.1,e.symm⟩⟩
  ·exact cC h
theorem seqIndex_of {k:Nat} {i:Int} {j:Nat} (h:Kg k i=some j):seqIndex? i k=some j:=by
 have q:=Sh h
 have e:(if i<0 then i+k else i)=(j:Int):=by
  refine q.2.elim (λp=> ?_) λp=> ?_
  ·rw [if_neg (dD.mpr p.1)];exact p.2
  ·rw [if_pos p.1];exact p.2
 unfold seqIndex?
 simp only [e]
 rw [if_pos (by simp only [kY,decide_eq_true_eq];exact ⟨dL j,fL.mpr q.1⟩)]
 rfl
theorem Ya {k:Nat} {i:Int} {j:Nat} (h:Kg k i=some j) (z:k<=bW): -(2^63)<=i/\i<2^63:=by
 have z:(k:Int)<=bW:=cZ.mpr z
 have l:(j:Int)<k:=fL.mpr (Sh h).1
 refine (Sh h).2.elim (λb=>⟨aD (by decide) b.1,b.2▸Bh l (jH z (by decide))⟩) λb=>⟨?_,Bh b.1 (by decide)⟩
 have q: -(k:Int)<=i:=uD (by rw [Dw,b.2];exact dL j)
 exact aD (aD (by decide) (jT z)) q
theorem BH {l:Addr} {items:Array aG} {i:Int} {t:Tok} {j:Nat} {x:aG} {Q:aG->aK->Prop} (hl:s.heap.IsList l items) (hj:Kg items.size i=some j)
  (hz:items.size<=bW) (hx:items[j]? =some x) (h:Q x s):aO (model G.p G.w) A (getItem (.ref l) (.int i t)) Q E s:=by
 have z:=Ya hj hz
 refine (Sh hj).2.elim (λb=>wpAny_getItem_list hl b.1 z.2 (by rw [b.2];exact hx) h) λb=>wpAny_getItem_list_neg hl b.1 (uD (by rw [Dw,b.2];exact dL j)) z.1 (by rw [b.2];exact hx) h
theorem Yk (x:Int) (kvs:List (Int×V)):∀xs,dZ (TX G h σ) kvs xs->Cd (Rep G h σ) (fF kvs x) (valueAt xs x):=
 dR (motive:=λkvs=>∀xs,dZ (TX G h σ) kvs xs->Cd (Rep G h σ) (fF kvs x) (valueAt xs x)) (λxs r=>by rw [show xs=[] from r];exact .none)
  (λp kvs i xs r=>r.elim λq ys e a b=>by
   have t:(p.1==x)=decide (q.1=x):=by rw [a.1];rfl
   have i:=i ys b
   unfold fF valueAt at i⊢
   rw [e,eB,eB,t]
   cases decide (q.1=x)
   ·exact i
   ·exact .some a.2) kvs
theorem Cd.at {γ:Type} {R:α->γ->Prop} {x:Option α} {y:Option γ} {a:α} (r:Cd R x y) (e:x=Option.some a):∃b,y=Option.some b/\R a b:=by
 cases r with
 | none=>exact cC e
 | some q=>exact ⟨_,rfl,aF e▸q⟩
noncomputable def CY (G:Gr) (A:dT) (h:Heap) (σ:Wd) (v:V) (w1 w2:aG) (o:Option Obj):Prop:=∀tk E (Q:aG->aK->Prop),(∀w h' tk',cU [] h h'->Rep G h' σ v w->Q w (G.at h' tk'))->ItemOn (model G.p G.w) A E w1 w2 Q (G.at (match o with | some o=>h.push o | none=>h) tk)
theorem QD {l:List aE} {i:Int} {x:aE} (b:Fb h σ l w1) (r2:Dt h P (.int i) w2) (e:atIdx l i=some x):CY G A h σ (.d x) w1 w2 none:=λtk E Q q=>
 b.elim λa r=>r.elim λws r=>aU r2 λt e2=>(bR.mp e).elim λj p=>(r.2.2.1.get p.2).elim λw d=>by
  have hz:ws.size=l.length:=bH.symm.trans r.2.2.1.len
  have q:=q w h tk (.refl h) d.2
  have hw:ws[j]? =some w:=eS.symm.trans d.1
  have bg:=Ya p.1 r.2.2.2
  rw [r.1,e2]
  refine r.2.1.elim (λs=>⟨"tuple",_,slot_tuple_getitem.lookup,Ir s,getItem_tuple s bg.1 bg.2 (hz▸seqIndex_of p.1) hw q⟩) λs=>⟨"list",_,slot_list_getitem.lookup,wK (s:=G.at h tk) s,BH s (hz▸p.1) (hz▸r.2.2.2) hw q⟩
theorem XL {l:List aE} {i:Int} (e:itemAt l i st=some (v,st')) {Pr:V->St->Prop} (c:∀x,atIdx l i=some x->Pr (.d x) st):Pr v st':=mU e λx g e=>vE e (c x g)
open Classical in
theorem XK {x y:aE} {n r:Nat} {kvs:List (aE×aE)} (R:Rm A n) (I:Iv G st k h mu) (a:Rep G h ⟨mu,bP k⟩ (.ref r) w1) (b:Dt h (Wd.out ⟨mu,bP k⟩) x w2) (m:(r,O.dt kvs)∈st.objs) (g:keyOk x=true) (e:tI kvs x=some y):
  CY G A h ⟨mu,bP k⟩ (.d y) w1 w2 none:=λtk E Q q=>by
 have g:=Xv g
 refine (I.obj m a).elim λc y=>(Wf g.1 b).elim λt et=>y.2.2.elim λxs z=>((Yf g.2.1 kvs xs z.2.1).at e).elim λp f=> ?_
 rw [y.1,et]
 exact ⟨"dict",_,yB.lookup,Heap.DictOfH.typeIs z.1,wpAny_getItem_heap (s:=G.at h tk) (knd:=keyKind G.p G.w) (by show A.units+1+60<cLine;rw [bL];exact R.un (by decide)) ⟨x,et▸Yg b,g.1,g.2.1,aB g.2.2 (by decide),rfl⟩ z.1 f.1 (q p.2 h _ (.refl h) f.2)⟩
noncomputable def CI (G:Gr) (A:dT) (st:St) (h:Heap) (σ:Wd) (w1 w2:aG) (v:V) (st':St):Prop:=st=st'/\CY G A h σ v w1 w2 none
theorem LQ {v1 v2:V} {n:Nat} (R:Rm A n) (I:Iv G st k h mu) (r1:Rep G h ⟨mu,bP k⟩ v1 w1) (r2:Rep G h ⟨mu,bP k⟩ v2 w2) (e:itemOf v1 v2 st=some (v,st')):CI G A st h ⟨mu,bP k⟩ w1 w2 v st':=by
 have at_ {l:List aE} {i:Int} (b:Fb h ⟨mu,bP k⟩ l w1) (e2:v2= .d (.int i)) (e:itemAt l i st=some (v,st')):CI G A st h ⟨mu,bP k⟩ w1 w2 v st':=XL e λx g=>⟨rfl,QD b (r2.d' e2) g⟩
 cases v1 with
 | d x=>
  exact pA e λi e2 e=>by
   cases x with
   | tuple l=>exact at_ (Dt.tup r1 |>.imp λY r=>r.imp λY r=>⟨r.1,.inl r.2.1,r.2.2⟩) e2 e
   | list l=>exact fB e λY e=>at_ (LstAt.seq (Dt.lst r1)) e2 e
   | _=>exact cC e
 | ref r=>
  exact Eb e λx e2 e=>QS e λo m e=>by
   cases o with
   | list l=>exact mU e λi g e=>at_ ((I.obj m r1).elim λa y=>y.1▸(sU.lst y.2.2).seq) (e2.trans (congrArg V.d (Kk g))) e
   | sJ l=>exact mU e λi g e=>at_ ((I.obj m r1).elim λa y=>y.1▸(sU.lst y.2.2).seq) (e2.trans (congrArg V.d (Kk g))) e
   | di kvs=>
    refine mU e λi g e=> ?_
    have e:=Ae e
    refine ⟨e.2,λtk E Q q=>(I.obj m r1).elim λa y=>y.2.2.elim λxs z=>((Yk i kvs xs z.2.1).at e.1).elim λp f=>aU (r2.d' (e2.trans (congrArg V.d (Kk g)))) λt et=> ?_⟩
    rw [y.1,et]
    exact ⟨"dict",_,yB.lookup,qP (s:=G.at h tk) z.1,wpAny_getItem_of (s:=G.at h tk) (knd:=intKind G.p G.w) (beq_self_eq_true i) z.1.mapOf f.1 (q p h _ (.refl h) f.2)⟩
   | dt kvs=>exact fB e λg e=>mU e λy f e=>vE e ⟨rfl,XK R I r1 (r2.d' e2) m g f⟩
   | _=>exact cC e
 | sd kvs=>
  exact Jw e λx s e2 g e=>mU e λy f e=>vE e ⟨rfl,λtk E Q q=>r1.elim λa p=>p.elim λm p=>((p.2.2.2.2 s).at f).elim λu d=>aU (r2.d' (e2.trans (congrArg V.d (RM g)))).2 λt et=>by
   rw [p.1,et]
   exact ⟨"dict",_,yB.lookup,Ip (s:=G.at h tk) p.2.2.2.1,wpAny_getItem_of (s:=G.at h tk) (Hc G.p G.w _ t) p.2.2.2.1 d.1 (q u h _ (.refl h) d.2)⟩⟩
 | _=>exact cC e
noncomputable def MD (G:Gr) (h:Heap) (σ:Wd) (o:Option V) (w:aG):Prop:=match o with
 | none=>w= .none
 | some v=>Rep G h σ v w
theorem RT (n:Nat) {i:Int} (g:0<=i):clipAt n i=min i.toNat n:=(mR g).elim λm e=>by
 unfold clipAt
 rw [if_neg (dD.mpr g),e,fS]
 refine (Iw m n).elim (λh=> ?_) λh=> ?_
 ·rw [iW (cZ.mpr h),gC (dL _),uT h];rfl
 ·rw [jG (cZ.mpr h),gC (dL _),zS h];rfl
theorem aLq {o:Option V} {d n:Nat} {f:Nat->M β} {b:β} {Pr:Prop} (r:MD G h σ o w) (hd:d=0\/d=n) (e:(cutAt o d>>=f) st=some (b,st')) (c:∀a kl,IsPart w kl->kl.elim d (clipAt n)=min a n->f a st=some (b,st')->Pr):Pr:=by
 cases o with
 | none=>exact c d none (r▸ .none) (hd.elim (λe=>e▸(Nat.zero_min n).symm) λe=>e▸(Nat.min_self n).symm) e
 | some v=>exact cE e λa s e1 e2=>pA e1 λi ei e=>fB e λg e=>pureE (P:=λa s=>f a s=some (b,st')->Pr) e (λe=>aU (Rep.d' r ei) λt et=>c i.toNat (some i) (et▸ .int i t) (RT n (of_decide_eq_true g)) e) e2
theorem VW {ws:Array aG} {kl kh:Option Int} {a b:Nat} (ea:kl.elim 0 (clipAt ws.size)=min a ws.size) (eb:kh.elim ws.size (clipAt ws.size)=min b ws.size):slicePick ws kl kh none=((ws.toList.drop a).take (b - a)).toArray:=by
 rw [slicePick_plain,ea,eb]
 congr 1
 rcases Iw a ws.size with hle | hle
 ·rw [uT hle]
  rcases Iw b ws.size with hb' | hb'
  ·rw [uT hb']
  ·rw [zS hb',kO (i:=ws.size - a) (bT (sY ..)),kO (i:=b - a) (by rw [sY];exact Dq hb' a)]
 ·rw [zS hle,Be (by exact bM _),Be (l:=ws.toList) hle,List.take_nil,List.take_nil]
abbrev Hu (wl wh:aG):Obj:={cls:= .type "slice",data:= .fields #[wl,wh,.none]}
theorem FC {v1:V} {lo hi:Option V} {wl wh:aG} (I:Iv G st k h mu) (r1:Rep G h ⟨mu,bP k⟩ v1 w1) (rl:MD G h ⟨mu,bP k⟩ lo wl) (rh:MD G h ⟨mu,bP k⟩ hi wh) (e:sliceOf v1 lo hi st=some (v,st')):
  st=st'/\CY G A h ⟨mu,bP k⟩ v w1 (.ref h.objs.size) (some (Hu wl wh)):=by
 have kp:cU [] h (h.push (Hu wl wh)):= .push _ _
 have I':=I.grow kp
 have noE {o:Option V} {w:aG} (g:o.isNone=true) (r:MD G h ⟨mu,bP k⟩ o w):w= .none:=by
  cases o with
  | none=>exact r
  | some _=>exact lH g
 have aHt {o:Option V} {w:aG} {f:Int->M V} {P:Prop} (r:MD G h ⟨mu,bP k⟩ o w) (e:(aFg o>>=f) st=some (v,st')) (c:∀i t,w= .int i t->f i st=some (v,st')->P):P:=by
  cases o with
  | none=>exact cC e
  | some u=>exact pA (v:=u) e λi ei e=>aU (Rep.d' r ei) λt et=>c i t et e
 let Pr:V->St->Prop:=λv st'=>st=st'/\CY G A h ⟨mu,bP k⟩ v w1 (.ref h.objs.size) (some (Hu wl wh))
 refine Eb e λx e1 e=> ?_
 have d:=r1.d' e1
 cases x with
 | tuple l=>
  refine fB e λg1 e=>aHt rl e λi u eu e=>fB e λg e=>vE (P:=Pr) e ⟨rfl,λtk E Q q=>(Dt.tup d).elim λa r=>r.elim λws r=> ?_⟩
  have g:=of_decide_eq_true g
  have hz:ws.size=l.length:=bH.symm.trans r.2.2.1.len
  have ht:IsTup (h.push (Hu wl wh)) a ws:=IsTup.keeps r.2.1 kp.sub
  have sl:(h.push (Hu (.int (i.toNat:Int) u) .none)).IsSliceOf h.objs.size _ _ _:=Hd ..
  rw [show (i.toNat:Int)=i from iS (aD (by decide) g.1)] at sl
  have eh:=noE g1 rh
  subst eu eh
  rw [r.1]
  exact ⟨"tuple",_,slot_tuple_getitem.lookup,Ir ht,getItem_tuple_from (s:=G.at (h.push (Hu (.int i u) .none)) tk) (a:=i.toNat) (sl:=h.objs.size) (u:=u) ht (by rw [iS (aD (by decide) g.1)];exact sl) ((Int.le_toNat (aD (by decide) g.1)).2 g.1) (by rw [hz];exact Int.toNat_le.2 g.2) (q _ _ tk (kp.trans (.push _ _)) (I'.Os ((I.Sr kp r.2.2.1).drop i.toNat) (by rw [sY];exact aB (Bb ..) r.2.2.2)))
   (hz▸aB r.2.2.2 (aB (bJ _) lX))⟩
 | list l=>
  refine (Dt.lst d).elim λa r=>r.elim λws r=> ?_
  have hz:ws.size=l.length:=bH.symm.trans r.2.2.1.len
  refine aLq (n:=ws.size) rl (.inl rfl) e λa' kl pl el e=>aLq (n:=ws.size) rh (.inr hz.symm) e λb kh ph eh e=>vE (P:=Pr) e ⟨rfl,λtk E Q q=> ?_⟩
  have hl:(h.push (Hu wl wh)).IsList a ws:=Heap.IsList.at r.2.1 λo e=>kp.sub _ _ e
  rw [r.1]
  refine ⟨"list",_,slot_list_getitem.lookup,wK (s:=G.at _ tk) hl,wpAny_getItem_list_slice (s:=G.at _ tk) hl (Hd ..) pl ph .none (by simp) ?_ (hz▸aB r.2.2.2 (aB (bJ _) lX))⟩
  rw [VW el (by rw [hz] at eh⊢;exact eh)]
  exact q _ _ tk (kp.trans (.push _ _)) (I'.Xr (((I.Sr kp r.2.2.1).drop a').take (b - a')) (by rw [zU,sY];exact aB (gT _ _) (aB (Bb ..) r.2.2.2)))
 | str x=>
  refine fB e λg1 e=>aHt rh e λj u eu e=>fB e λg e=>vE (P:=Pr) e ⟨rfl,λtk E Q q=>d.2.elim λt et=> ?_⟩
  rw [eu,noE g1 rl,et]
  exact SBH.sliceItem_ns (s:=G.at h tk) (P:=λh'=>cU [] h h') (λh ob hp=>hp.trans (.push _ _)) (.refl h) (λh' t' tk hp=>q _ _ tk hp ⟨⟨g,aB (Txt.slice_le x none (some j)) d.1.2⟩,_,rfl⟩) (aB d.1.2 (aB (bJ _) lX))
 | _=>exact cC e
end
section
variable {α β:Type} {G:Gr} {A:dT} {k:List It} {st st':St} {h h':Heap} {σ:Wd} {mu:List Addr} {v u:V} {w w1 w2:aG} {E:aG->aK->Prop} {s:aK} {kvs:List (Nm×V)} {es:List lN} {x y:Nm}
noncomputable def val (l:List Nat):Nat:=l.foldr (λa b=>a+256*b) 0
theorem ER:∀ (k n:Nat),n<=k->val (dg k n)=n
 | 0=>λn h=>(Nat.le_zero.mp h).symm
 | k+1=>λn h=>by
  show val (if n=0 then [] else n%256::dg k (n / 256))=n
  split
  ·rename_i e;exact e.symm
  ·rename_i e
   show n%256+256*val (dg k (n / 256))=n
   rw [ER k (n / 256) (jZ (bA (Nat.div_lt_self (Hf e) (by decide)) h))]
   exact Nat.mod_add_div n 256
theorem Re (x y:Nm) (e:x.str=y.str):x=y:=by
 have e:dg x x=dg y y:=congrArg (λs:Str=>s.cps.toList) e
 exact (ER x x (bM _)).symm.trans ((congrArg val e).trans (ER y y (bM _)))
theorem Ev {t:Tok}:(zL x.str t).isStr y.str=decide (x=y):=by
 show decide (x.str=y.str)=_
 by_cases h:x=y
 ·rw [h,decide_eq_true rfl,decide_eq_true rfl]
 ·rw [decide_eq_false h,decide_eq_false λe=>h (Re _ _ e)]
noncomputable def Ze (es:List lN):Prop:=∀e∈es,∃ (x:Nm) (t:Tok),e.key= .str x.str t
theorem aMo.str (N:aMo kvs es):Ze es:=λe m=>(N.key e m).imp λx p=>p.imp λt p=>p.2
theorem gl (N:Ze es) (y:Str):getL y es=some (sv y es):=by
 unfold getL sv
 cases es.find? (·.key.isStr y) with
 | some e=>rfl
 | none=>exact if_neg λq=>(mP.mp q).elim λe q=>(N e q.1).elim λx p=>p.elim λt p=>nomatch (p▸q.2:(match zL x.str t with | .ref _=>true | _=>false)=true)
theorem aCr (hsh:Int) (t:Tok) (es:List lN):Ze es->sv y.str (putL x.str hsh (.str x.str t) w es)=if x=y then some w else sv y.str es:=
 dR (motive:=λes=>Ze es->sv y.str (putL x.str hsh (.str x.str t) w es)=if x=y then some w else sv y.str es)
  (λY=>by
   show (List.find? (λe:lN=>e.key.isStr y.str) [⟨hsh,.str x.str t,w⟩]).map (·.val)=_
   rw [eB,Ev]
   by_cases e:x=y
   ·rw [decide_eq_true e,if_pos e];rfl
   ·rw [decide_eq_false e,if_neg e];rfl)
  (λd es i N=>(N d (.head _)).elim λz p=>p.elim λu p=>by
   have i:=i λe m=>N e (.tail _ m)
   unfold putL
   rw [p,Ev]
   unfold sv at i⊢
   by_cases ex:z=x
   ·rw [decide_eq_true ex,if_pos rfl,eB,eB,p,Ev,ex]
    by_cases e:x=y
    ·rw [decide_eq_true e,if_pos e];rfl
    ·rw [decide_eq_false e,if_neg e]
   ·rw [decide_eq_false ex,if_neg cP,eB,eB,p,Ev]
    by_cases e:z=y
    ·rw [decide_eq_true e,if_neg λq=>ex (e.trans q.symm)]
    ·rw [decide_eq_false e];exact i) es
theorem VQ (hsh:Int) (t:Tok) (es:List lN):(putL x.str hsh (.str x.str t) w es).length<=es.length+1/\((sv x.str es).isSome=true->(putL x.str hsh (.str x.str t) w es).length=es.length):=
 dR (motive:=λes=>(putL x.str hsh (.str x.str t) w es).length<=es.length+1/\((sv x.str es).isSome=true->(putL x.str hsh (.str x.str t) w es).length=es.length)) ⟨bM _,lH⟩
  (λd es i=>by
   unfold putL
   unfold sv at i⊢
   rw [eB]
   cases d.key.isStr x.str
   ·exact ⟨bK i.1,λq=>congrArg (· +1) (i.2 q)⟩
   ·exact ⟨bJ _,λY=>rfl⟩) es
theorem VR (hsh:Int) (t:Tok) (es:List lN):∀e∈putL x.str hsh (.str x.str t) w es,e.key= .str x.str t\/∃d∈es,e.key=d.key:=
 dR (motive:=λes=>∀e∈putL x.str hsh (.str x.str t) w es,e.key= .str x.str t\/∃d∈es,e.key=d.key) (λe m=> .inl (by rw [aC.mp m]))
  (λd es i e m=>by
   unfold putL at m
   cases q:d.key.isStr x.str
   ·rw [q] at m
    exact (aJ.mp m).elim (λm=> .inr ⟨d,.head _,congrArg _ m⟩) λm=>(i e m).imp id λr=>r.imp λf r=>⟨.tail _ r.1,r.2⟩
   ·rw [q] at m
    exact (aJ.mp m).elim (λm=> .inr ⟨d,.head _,by rw [m]⟩) λm=> .inr ⟨e,.tail _ m,rfl⟩) es
theorem jK {z:Nm} {r:List (Nm×V)}:((z,u)::r).lookup y=if y=z then some u else r.lookup y:=by
 rw [pO]
 by_cases e:y=z
 ·rw [if_pos e,beq_iff_eq.mpr e]
 ·rw [if_neg e,beq_false_of_ne e]
theorem kZ {p:Nm×V} {r:List (Nm×V)}:mT x v (p::r)=if x=p.1 then (x,v)::r else p::mT x v r:=rfl
theorem Vh (l:List (Nm×V)):(mT x v l).lookup y=if y=x/\(l.lookup x).isSome=true then some v else l.lookup y:=
 dR (motive:=λl=>(mT x v l).lookup y=if y=x/\(l.lookup x).isSome=true then some v else l.lookup y) (by rw [if_neg λq=>lH q.2];rfl) (λp r i=>by
  rw [kZ]
  by_cases e:x=p.1
  ·rw [if_pos e,jK,jK,jK,if_pos e]
   by_cases q:y=x
   ·rw [if_pos q,if_pos ⟨q,rfl⟩]
   ·rw [if_neg q,if_neg λz=>q z.1,if_neg λz=>q (z.trans e.symm)]
  ·rw [if_neg e,jK,jK,jK,if_neg e,i]
   by_cases q:y=p.1
   ·rw [if_pos q,if_neg λz=>e (z.1.symm.trans q)];exact (if_pos q).symm
   ·rw [if_neg q]
    split<;>rfl) l
theorem DN (l:List (Nm×V)):(mT x v l).map (·.1)=l.map (·.1):=
 dR (motive:=λl=>(mT x v l).map (·.1)=l.map (·.1)) rfl (λp r i=>by
  rw [kZ]
  split
  ·rename_i e;rw [dX,dX,e]
  ·exact congrArg (p.1:: ·) i) l
theorem Vi (l:List (Nm×V)):l.lookup y=some v->y∈l.map (·.1):=
 dR (motive:=λl=>l.lookup y=some v->y∈l.map (·.1)) cC (λp r i q=>by
  rw [jK] at q
  split at q
  ·rename_i e;exact e▸ .head _
  ·exact .tail _ (i q)) l
theorem YN (hv:nB v=true) (l:List (Nm×V)):l.lookup x=some u->cu (mT x v l)+(if nB u then 0 else 1)=cu l:=
 dR (motive:=λl=>l.lookup x=some u->cu (mT x v l)+(if nB u then 0 else 1)=cu l) cC (λp r i q=>by
  rw [jK] at q
  rw [kZ]
  split at q
  ·rename_i e
   rw [if_pos e,<-aF q]
   show (if nB v then cu r else cu r+1)+_=if nB p.2 then cu r else cu r+1
   rw [hv,if_pos rfl]
   split<;>rfl
  ·rename_i e
   rw [if_neg e]
   show (if nB p.2 then cu _ else cu _+1)+_=if nB p.2 then cu r else cu r+1
   rw [<-i q]
   split
   ·rfl
   ·rw [lD]) l
theorem KR (hu:nB v=true) (q:Rep G h σ v w):handedIn w=true:=by
 cases v with
 | un=>exact lH hu
 | d x=>cases x with
  | none=>rw [show w=_ from q];rfl
  | bool b=>rw [show w=_ from q];rfl
  | int i=>exact aU q λY e=>e▸rfl
  | str x=>exact aU (And.right q) λY e=>e▸rfl
  | list l=>exact Mr.elim q λY Y Y e Y Y=>e▸rfl
  | tuple l=>exact Mr.elim q λY Y Y e Y Y=>e▸rfl
  | dict _=>exact False.elim q
 | ref r=>exact q.elim λY p=>p.2▸rfl
 | inst c r=>exact q.elim λY p=>p.elim λY p=>p.1▸rfl
 | GW lo hi=>exact q.elim λY p=>p.elim λY p=>p.elim λY p=>p.elim λY p=>p.1▸rfl
 | sd kvs=>exact q.elim λY p=>p.elim λY p=>p.1▸rfl
noncomputable def aMr (G:Gr) (h:Heap) (σ:Wd) (c:Cl) (r:Nat) (kvs:List (Nm×V)) (w:aG) (z a:Addr) (es:List lN) (n:Nat):Prop:=w= .ref z/\σ.mu[r]? =some a/\h.get? a=some (dictOf es n)/\InstAt h z (instObj (G.cl c) a) (G.cl c) (some (dictOf es n))/\aMo kvs es/\∀x v,kvs.lookup x=some v->nB v=true->∃w,sv x.str es=some w/\Rep G h σ v w
theorem aBc {o:V} {f:Cl×Nat->M β} {b:β} {P:Prop} (e:(inst o>>=f) st=some (b,st')) (c:∀c r,o= .inst c r->f (c,r) st=some (b,st')->P):P:=by
 cases o with
 | inst d r=>exact c d r rfl e
 | _=>exact cC e
theorem aKf {o:O} {l:List (Nm×V)} {a:Addr} (e:aKg o=some l):o= .ns l:=by
 cases o with
 | ns m=>exact congrArg O.ns (aF e)
 | _=>exact cC e
theorem Xz {c:Cl} {r:Nat} {o:O} (I:Iv G st k h mu) (q:Rep G h ⟨mu,bP k⟩ (.inst c r) w) (m:(r,o)∈st.objs) (e:aKg o=some kvs):∃z a es n,aMr G h ⟨mu,bP k⟩ c r kvs w z a es n:=by
 rw [aKf (a:=0) e] at m
 exact (I.objs r _ m).elim λa p=>p.2.elim λes y=>y.elim λn y=>q.elim λz t=>t.elim λb t=>⟨z,a,es,n,t.1,p.1,y.1,⟨aF (p.1.symm.trans t.2.1)▸t.2.2.1,rfl,rfl,y.1⟩,y.2⟩
theorem DQ {o:V} {expr:Bool} (B:Base G) (m:It.v o w∈k):RR G A k (getAttr o x) (PySem.getAttr w x.str expr) (λv w=> .v v w::k):=RR.calm λst v st' h mu e I=>
 aBc e λc r ei e=>fB e λg e=>xI e λob kvs mm eo e=>mU e λv el e=>fB e λg2 e=>vE e ⟨rfl,rF λtk E Q q=>
  (Xz I (ei▸I.has m:Rep G h ⟨mu,bP k⟩ (.inst c r) w) mm eo).elim λz p=>p.elim λa p=>p.elim λes p=>p.elim λn p=>(p.2.2.2.2.2 x v el g2).elim λu p'=>by
   rw [p.1]
   exact get_value (s:=G.at h tk) (B.MF.keeps I.base) p.2.2.2.1 (Mv (B.get c)).1 (findObj_own (B.QO c) (B.own c x g) rfl ((gl p.2.2.2.2.1.str x.str).trans (congrArg some p'.1))) (KR g2 p'.2) (q u _ p'.2)⟩
theorem VZ {x C dx:Addr} {name:Str} {tk:Tok} {v:aG} {es:List lN} {n:Nat} {R:wJ->aK->Prop} (X:G.K.In s.heap)
  (I:InstAt s.heap x (instObj C dx) C (some (dictOf es n))) (hp:plainOver G.K C=true) (ht:takerIn G.K C name=some none) (hh:(clsIn G.K C).any (·.hasDict)=true) (D:s.heap.get? dx=some (dictOf es n))
  (hl:getL name es=some (sv name es)) (hz:(putL name (lB G.w.params name) (.str name s.toks) v es).length<=1000)
  (h:∀h',h'.get? dx=some (dictOf (putL name (lB G.w.params name) (.str name s.toks) v es) (putN name es n))->gJ dx s.heap h'->R (.ok (.ret .none)) {s with heap:=h',toks:=s.toks+1}):
  codeAny (model G.p G.w) A (.call (.builtin "object.__setattr__") ⟨[.ref x,.str name tk,v],[]⟩) R s:=by
 refine osa_open X I hp ht λb=>(any_some hh).elim λcd hc=> ?_
 have e:=putName_dict name (lB G.w.params name) (.str name s.toks) v es n
 have D':(s.heap.update dx (Obj.putName name (lB G.w.params name) (.str name s.toks) v)).get? dx=some (dictOf (putL name (lB G.w.params name) (.str name s.toks) v es) (putN name es n)):=(hM _ D (by rw [e];rfl)).trans (congrArg some e)
 refine aA (aH (aA (aA (wpAny_loadPart I.at_ (aA ((looks_clsIn X hc.1).here ?_))))))
 rw [hc.2]
 refine aH (a:=some dx) (aA (aH (aA ?_)))
 unfold nsSet
 refine aA (aA (mO (aH (aA (wpAny_mkText (aA (wpAny_loadPart D ?_)))))))
 have c:(!es.toArray.any (·.key.isStr name)&&es.toArray.any (·.refKey))=false:=by
  rw [Li,Li]
  unfold getL sv at hl
  cases q:es.find? (·.key.isStr name) with
  | some d=>rw [mP.mpr ⟨d,pT q,Ci (p:=λe:lN=>e.key.isStr name) q⟩];rfl
  | none=>
   rw [q] at hl
   cases z:es.any (·.refKey) with
   | false=>rw [mS]
   | true=>rw [z] at hl;exact cC hl
 dsimp only
 rw [aRefKeyMayBeTheName_at,c]
 exact wpAny_updatePart D (aA (wpAny_lookBehind D' (pastItsLine_dict (by rw [oG];exact aB hz (by decide))) (aH (h _ D' (gX ..)))))
theorem Qt {o v:V} {w wv:aG} (B:Base G) (m:It.v o w∈k) (m2:It.v v wv∈k):RR G A k (setAttr o x v) (PySem.setAttr w x.str wv) (λY Y=>k):=RR.of λst Y st' h tk mu e I E Q q=>
 aBc e λc r ei e=>fB e λg e=>xI e λob kvs mm eo e=>fB e λg2 e=>fB e λg3 e=>by
  have e:st.put r (.ns (mT x v kvs))=st':=(cL (aF e)).2
  rw [aKf (a:=0) eo] at mm
  refine (Xz I (ei▸I.has m:Rep G h ⟨mu,bP k⟩ (.inst c r) w) mm rfl).elim λz p=>p.elim λa p=>p.elim λes p=>p.elim λn p=>(hU.mp g2).elim λu hu=> ?_
  have N:=p.2.2.2.2.1
  have cu:=YN g3 kvs hu
  have pl:=VQ (x:=x) (w:=wv) (lB G.w.params x.str) (tk+1) es
  have len:(putL x.str (lB G.w.params x.str) (.str x.str (tk+1)) wv es).length+Mine.cu (mT x v kvs)<=100:=by
   cases hn:nB u with
   | true=>
    rw [hn] at cu
    rw [pl.2 ((p.2.2.2.2.2 x u hu hn).elim λY q=>by rw [q.1];rfl)]
    exact aB (bE (bT cu) _) N.len
   | false=>
    rw [hn] at cu
    refine aB (cW pl.1 _) (aB ?_ N.len)
    rw [<-cu,bL,dQ 1];exact bM _
  rw [<-e] at q
  rw [p.1]
  refine set_plain (s:=G.at h tk) (B.MF.keeps I.base) p.2.2.2.1 (B.VC c) (VZ (s:=G.at h (tk+1)) (B.MF.keeps I.base) p.2.2.2.1 (B.over c) (by unfold takerIn;rw [B.own c x g];rfl) (B.QO c) p.2.2.1 (gl N.str x.str)
   (aB (aB (aS _ _) len) (by decide)) λh' hg hs=>q _ h' _ mu ?_)
  refine Iv.upd (p:=[]) (p':=[]) I mm ?_ p.2.1 (.same hs) cB cB .nil cB .nil rfl λK=>⟨⟨_,_,hg,⟨len,λd hd=> ?_⟩,λy u' hu' hn=> ?_⟩,cB⟩
  ·exact λq=>(I.sJ r q).elim λl q=>nomatch Xu I.keys mm q
  ·rw [DN]
   exact (VR _ _ es d hd).elim (λe=>⟨x,_,Vi kvs hu,e⟩) λy=>y.elim λd' y=>(N.key d' y.1).imp λz y'=>y'.imp λt y'=>⟨y'.1,y.2.trans y'.2⟩
  ·rw [aCr _ _ es N.str]
   rw [Vh,hu] at hu'
   by_cases ey:y=x
   ·rw [if_pos ⟨ey,rfl⟩] at hu'
    rw [if_pos ey.symm]
    exact ⟨wv,rfl,aF hu'▸Rep.mono K _ _ (I.has m2)⟩
   ·rw [if_neg λq=>ey q.1] at hu'
    rw [if_neg λq=>ey q.symm]
    exact (p.2.2.2.2.2 y u' hu' hn).imp λw q=>⟨q.1,Rep.mono K _ _ q.2⟩
end
section
variable {α β:Type} {G:Gr} {A:dT} {k:List It} {st st':St} {h h':Heap} {σ:Wd} {mu:List Addr} {v u:V} {w w1 w2 wv:aG} {E:aG->aK->Prop} {s:aK} {r n:Nat} {a:Addr} {o o':O}
theorem Iv.live (I:Iv G st k h mu) (m:(r,o)∈st.objs) (n:BC o=false):r∉Ii k:=λx=>(I.sJ r x).elim λl q=>by rw [Xu I.keys m q] at n;exact lH n.symm
theorem Iv.put (I:Iv G st k h mu) (m:(r,o)∈st.objs) (n:BC o=false) (ha:mu[r]? =some a) (hs:gJ a h h') (q:tL h ⟨mu,bP k⟩ h' ⟨mu,bP k⟩->Kv G h' ⟨mu,bP k⟩ a o'):Iv G (st.put r o') k h' mu:=Iv.upd (p:=[]) (p':=[]) I m (I.live m n) ha (.same hs) cB cB .nil cB .nil rfl λK=>⟨q K,cB⟩
theorem Iv.aDz (I:Iv G st k h mu) (m:(r,o)∈st.objs) (n:BC o=false) (ha:mu[r]? =some a) (hs:gJ a h h') (q:tL h ⟨mu,bP k⟩ h' ⟨mu,bP k⟩->Kv G h' ⟨mu,bP k⟩ a o'/\Rep G h' ⟨mu,bP k⟩ v w):Iv G (st.put r o') (.v v w::k) h' mu:=Iv.upd (p:=[]) (p':=[.v v w]) I m (I.live m n) ha (.same hs) cB cB .nil cB .nil rfl λK=>⟨(q K).1,λi x=>by rw [aC.mp x];exact (q K).2⟩
theorem Rs (ws:Array aG) (k:Nat) (f:Array aG->Array aG) (hg:h.get? a=some (listOf ws k)):∃n,(h.update a (mF f)).get? a=some (listOf (f ws) n):=⟨_,hM _ hg rfl⟩
theorem Rc {l:List aE} (e:Uz o=some l):o= .list l:=by
 cases o with
 | list m=>exact congrArg O.list (aF e)
 | _=>exact cC e
theorem jM.set {P:Addr->Prop} {y:aE}:∀ (j:Nat) {xs:List aE} {ws:List aG},jM h P xs ws->Dt h P y w->jM h P (xs.set j y) (ws.set j w)
 | j,[],ws,r,_=>by rw [show ws=[] from r];exact rfl
 | 0,_::_,_,r,d=>r.elim λY Y e Y b=>e▸jM.cons d b
 | j+1,_::_,_,r,d=>r.elim λY Y e a b=>e▸jM.cons a (b.set j d)
theorem AA {l:Addr} {items:Array aG} {k:Nat} {i:Int} {t:Tok} {v:aG} {j:Nat} {Q:Unit->aK->Prop} (ho:s.heap.get? l=some (listOf items k)) (hj:Kg items.size i=some j)
  (hz:items.size<=bW) (h:Q () {s with heap:=s.heap.update l (mF (·.setIfInBounds j v))}):aO (model G.p G.w) A (Go (.ref l) (.int i t) v) Q E s:=by
 have hl:s.heap.IsList l items:=⟨_,ho,rfl,k,rfl⟩
 have b:=Ya hj hz
 have q:=Sh hj
 have fits:Builtin.List.listFitsIndex i=true:=q.2.elim (λp=>fitsIndex_of p.1 b.2) λp=>fitsIndex_neg p.1 b.1
 have hx':items[j]? =some items[j]:=fA q.1
 unfold Go
 try with_reducible refine bX ?_
 first | refine aA (aH ?_) | skip
 refine aA (wpAny_sequenceKey hl.typeIs (by decide) (aA (jY (name:=aZ "__setitem__") hl.typeIs slot_list_setitem
  (fO slot_list_setitem hl.typeIs entry_list_setitem ?_ (args_list_setitem _ _ _)))))
 show aO _ _ (Builtin.List.listSubscript? (.int i t)>>=_) _ _ s
 refine aA (wpAny_listSubscript_int fits ?_)
 cases i with
 | ofNat m=>
  rw [show m=j from q.2.elim (λp=>yZ p.2) λp=>absurd p.1 (dD.mpr (dL m))]
  show aO _ _ ((seqItemAt l j>>=λr=>pure (r.map (j,·)))>>=_) _ _ s
  refine aA (aA (wpAny_seqItemAt ho rfl (aH ?_)))
  rw [hx']
  show aO _ _ (setSeqItemAt l j v>>=_) _ _ s
  exact aA (wpAny_setSeqItemAt ho rfl (aH ⟨.none,rfl,aH h⟩))
 | negSucc m=>
  show aO _ _ ((Builtin.List.listItems (.ref l)>>=λxs=>pure ((seqIndex? (Int.negSucc m) xs.size).bind λi=>xs[i]?.map (i,·)))>>=_) _ _ s
  refine aA (aA ?_)
  show aO _ _ (seqItems? (.ref l)>>=_) _ _ s
  refine aA (jR ho rfl (aH (aH ?_)))
  rw [seqIndex_of hj,Option.bind_some,hx']
  show aO _ _ (setSeqItemAt l j v>>=_) _ _ s
  exact aA (wpAny_setSeqItemAt ho rfl (aH ⟨.none,rfl,aH h⟩))
theorem aGb (i:Int) (kvs:List (Int×V)):∀xs,dZ (TX G h σ) kvs xs->(fF kvs i).isSome=xs.any (λkv=>kv.1=i):=
 dR (motive:=λkvs=>∀xs,dZ (TX G h σ) kvs xs->(fF kvs i).isSome=xs.any (λkv=>kv.1=i)) (λxs r=>by rw [show xs=[] from r];rfl)
  (λp kvs ih xs r=>r.elim λq ys e a b=>by
   have ih:=ih ys b
   unfold fF at ih⊢
   rw [e,eB,List.any_cons,show (p.1==i)=decide (q.1=i) by rw [a.1];rfl]
   cases decide (q.1=i)
   ·exact ih
   ·rfl) kvs
theorem aGa {i:Int} {kvs:List (Int×V)} {xs:List (Int×aG)} (r:dZ (TX G h σ) kvs xs) (d:Rep G h σ v w):dZ (TX G h σ) (Nr kvs i v) (stored xs i w):=by
 unfold Nr stored
 rw [aGb i kvs xs r]
 cases xs.any (λkv=>kv.1=i)
 ·rw [if_neg cP,if_neg cP]
  exact r.app (dZ.cons ⟨rfl,d⟩ rfl)
 ·rw [if_pos rfl,if_pos rfl]
  exact dR (motive:=λkvs=>∀xs,dZ (TX G h σ) kvs xs->dZ (TX G h σ) (kvs.map λp=>if p.1==i then (p.1,v) else p) (xs.map λkv=>if kv.1=i then (kv.1,w) else kv)) (λxs r=>by rw [show xs=[] from r];exact rfl)
   (λp kvs ih xs r=>r.elim λq ys e a b=>by
    rw [e,dX,dX]
    refine dZ.cons ?_ (ih ys b)
    rw [a.1]
    by_cases z:q.1=i
    ·rw [if_pos z,if_pos (beq_iff_eq.mpr z)];exact ⟨rfl,d⟩
    ·rw [if_neg z,if_neg λq=>z (beq_iff_eq.mp q)];exact a) kvs xs r
theorem DV {i:Int} {kvs:List (Int×V)} (z:kvs.length<bW):(Nr kvs i v).length<=bW:=by
 unfold Nr
 split
 ·rw [aI];exact iN z
 ·rw [aN];exact z
theorem Qh {α β:Type} {l:List α} {x:List β} (e:x.length=l.length) (z:l.length<=bW):x.length<=sizeLine:=e▸aB z (aB (bJ _) lX)
theorem Pm {α:Type} {l:List α} {x:α} (z:l.length<bW):(l++[x]).length<=bW:=by rw [aN];exact z
open Classical in
theorem DP {o kv v:V} {wk:aG} (R:Rm A n) (m1:It.v o w∈k) (m2:It.v kv wk∈k) (m3:It.v v wv∈k):RR G A k (setItem o kv v) (Go w wk wv) (λY Y=>k):=RR.of λst Y st' h tk mu e I E Q q=>by
 have go {r:Nat} {a:Addr} {ob o':O} {s:St} (m:(r,ob)∈st.objs) (n:BC ob=false) (ha:mu[r]? =some a) (e:st.put r o'=st') {h':Heap} {tk':Nat} (hs:gJ a h h') (f:tL h ⟨mu,bP k⟩ h' ⟨mu,bP k⟩->Kv G h' ⟨mu,bP k⟩ a o'):Q () (G.at h' tk'):=q () h' tk' mu (e▸I.put m n ha hs f)
 have fin {r:Nat} {o':O} (e:Lw r o' st=some ((),st')):st.put r o'=st':=(cL (aF e)).2
 refine cE e λr s e0 e=>Eb e λx ex e=>QS e λob m e=>Eb e λy ey e=> ?_
 have er:o= .ref r/\st=s:=by
  cases o with
  | ref r'=>exact (cL (aF (show some (r',st)=some (r,s) from e0))).imp (congrArg V.ref) id
  | _=>exact cC e0
 rw [<-er.2] at m e
 refine (I.obj m (er.1▸I.has m1:Rep G h ⟨mu,bP k⟩ (.ref r) w)).elim λa y'=> ?_
 have rk:=Rep.d' (I.has m2) ex
 rw [y'.1]
 cases ob with
 | list l=>
  refine mU e λi gi e=>mU e λj hj e=>y'.2.2.elim λws p=>p.elim λc p=>aU (Kk gi▸rk:Dt h (Wd.out ⟨mu,bP k⟩) (.int i) wk) λt et=>(Rs ws c (·.setIfInBounds j wv) p.1).elim λc' hg=> ?_
  have hz:ws.size=l.length:=bH.symm.trans p.2.1.len
  rw [et]
  exact AA (s:=G.at h tk) p.1 (hz▸hj) (hz▸p.2.2) (go (s:=st) m rfl y'.2.1 (fin e) (.update ..) λK=>⟨_,_,hg,by rw [Array.toList_setIfInBounds];exact (K.Sr p.2.1).set j (K.dt (Rep.d' (I.has m3) ey)),by rw [List.length_set];exact p.2.2⟩)
 | di kvs=>
  refine mU e λi gi e=>fB e λg e=>y'.2.2.elim λxs p=>aU (Kk gi▸rk:Dt h (Wd.out ⟨mu,bP k⟩) (.int i) wk) λt et=> ?_
  rw [et]
  exact wpAny_setItem_pairs (s:=G.at h tk) (knd:=intKind G.p G.w) (qO ..) p.1 (hsz:=Qh p.2.1.len p.2.2) λh' D' hs=>go (s:=st) m rfl y'.2.1 (fin e) hs λK=>⟨_,D',aGa (dZ.mono (λY Y t=>⟨t.1,Rep.mono K _ _ t.2⟩) _ _ p.2.1) (K.dt (Rep.d' (I.has m3) ey)),DV (of_decide_eq_true g)⟩
 | dt kvs=>
  refine fB e λg e=>fB e λg' e=>y'.2.2.elim λxs p=>(Wf (Xv g).1 rk).elim λt et=> ?_
  have g:=Xv g
  have g':=aM.mp g'
  rw [et]
  refine wpAny_setItem_heap (s:=G.at h tk) (knd:=keyKind G.p G.w) (k:=norm x) (by show A.units+1+60<cLine;rw [bL];exact R.un (by decide)) ⟨x,et▸Yg rk,g.1,g.2.1,aB g.2.2 (by decide),rfl⟩ p.1 (hsz:=Qh p.2.1.len p.2.2) λh' D' hs=>go (s:=st) m rfl y'.2.1 (fin e) hs λK=> ?_
  have hn:atKey xs (norm x)=none:=by
   have f:=(Yf g.2.1 kvs xs p.2.1).is
   cases q:atKey xs (norm x) with
   | none=>rfl
   | some _=>rw [q] at f;rw [f] at g';exact lH g'.2
  rw [storedH_new hn] at D'
  exact ⟨_,D',(dZ.mono (λY Y t=>⟨t.n,t.t,t.y,t.d,K.dt t.k,K.dt t.v⟩) _ _ p.2.1).app (dZ.cons ⟨rfl,g.1,g.2.1,aB g.2.2 (by decide),K.dt (et▸rk),K.dt (Rep.d' (I.has m3) ey)⟩ rfl),Pm (of_decide_eq_true g'.1)⟩
 | _=>exact cC e
end
section
variable {α β:Type} {G:Gr} {A:dT} {k:List It} {st st':St} {h h':Heap} {σ:Wd} {mu:List Addr} {v u:V} {w w1 w2 wv:aG} {E:aG->aK->Prop} {s:aK} {r n:Nat} {a:Addr} {o o':O}
theorem Yc (l:Addr) (items:Array aG) (n:Nat) (b:Addr) (items2:Array aG) (n2:Nat) (dd:Option Addr) (sl:Array (Option aG)) (hc0:¬(!items.isEmpty&&yX (items.size+items2.size))=true) (hc1:items.size<=sizeLine) (hs2:items.size+items2.size<=sizeLine+1):
  Meets (Builtin.«list.extend» ⟨[.ref l,.ref b],[]⟩) (λY R s=>s.heap.get? l=some {cls:= .type "list",dict:=none,data:= .seq items n,slots:= #[]}/\s.heap.get? b=some {cls:= .type "list",dict:=dd,data:= .seq items2 n2,slots:=sl}/\R (.ok (.ret jD)) {s with heap:=s.heap.update l (mF λx=>x++items2),toks:=s.toks}):=
 .of_wp λprog w A R s h=>by
  obtain ⟨hp,g,d,tk,os⟩:=s;obtain ⟨hl,hb,h⟩:=h;have f1:=AutoSeq1.idx_int;have f2:=AutoSeq1.sub_tuple_tuple;have f3:=AutoSeq1.sub_list_list;have f4:=AutoSeq1.sub_tuple_list;have f5:=AutoSeq1.sub_list_tuple;
  have hz':(items++items2).size<=sizeLine+1:=by rw [Array.size_append];exact hs2
  wp_walk using (wpAny_updateSeq hl rfl (hz:=hc1) (_hz':=hz')),qF hl,qF hb;exact ⟨_,rfl,h⟩
theorem Xe {n:Nat} (h:n<=bW):yX n=false:=decide_eq_false (fG.mpr (aB h (by decide)))
theorem WG {l:List (Int×V)} (e:aKi o=some l):o= .di l:=by
 cases o with
 | di m=>exact congrArg O.di (aF e)
 | _=>exact cC e
theorem KH {l:List α} {x:α} (e:one l=some x):l=[x]:=by
 cases l with
 | nil=>exact cC e
 | cons y r=>cases r with
  | nil=>exact congrArg (λx=>[x]) (aF e)
  | cons _ _=>exact cC e
theorem twoE {l:List α} {x:α×α} (e:two l=some x):l=[x.1,x.2]:=by
 cases l with
 | nil=>exact cC e
 | cons y r=>cases r with
  | nil=>exact cC e
  | cons z r=>cases r with
   | nil=>exact congrArg (λx:α×α=>[x.1,x.2]) (aF e)
   | cons _ _=>exact cC e
theorem all1 {R:α->β->Prop} {x:α} {ys:List β} (r:dZ R [x] ys):∃y,ys=[y]/\R x y:=r.elim λy q e a b=>⟨y,by rw [e,show q=[] from b],a⟩
theorem all2 {R:α->β->Prop} {x x':α} {ys:List β} (r:dZ R [x,x'] ys):∃y y',ys=[y,y']/\R x y/\R x' y':=r.elim λy q e a b=>(all1 b).elim λy' p=>⟨y,y',by rw [e,p.1],a,p.2⟩
theorem VT {x:V} (e:(Lw r o'>>=λY=>(pure x:M V)) st=some (v,st')) {P:V->St->Prop} (c:P x (st.put r o')):P v st':=cE e λY s e1 e2=>pureE (P:=P) e2 ((cL (aF e1)).2▸c)
noncomputable def Mt (G:Gr) (A:dT) (k:List It) (h:Heap) (t:Sem aG) (v:V) (st':St):Prop:=∀tk E (Q:aG->aK->Prop),(∀w h' tk' mu',Iv G st' (.v v w::k) h' mu'->Q w (G.at h' tk'))->aO (model G.p G.w) A t Q E (G.at h tk)
theorem Mt.calm {t:Sem aG} (I:Iv G st k h mu) (c:Calm G A h ⟨mu,bP k⟩ v t):Mt G A k h t v st:=λtk E Q q=>c tk E Q λw h' tk' kp r=>q w h' tk' mu (I.val kp r)
theorem PL {l:List aE} {x:aE} {wx:aG} (I:Iv G st k h mu) (q:Rep G h ⟨mu,bP k⟩ (.ref r) w) (qx:Dt h (Wd.out ⟨mu,bP k⟩) x wx) (m:(r,O.list l)∈st.objs) (z:l.length<bW):
  Mt G A k h (call (.builtin "list.append") [w,wx]) (.d .none) (st.put r (.list (l++[x]))):=λtk E Q c=>(I.obj m q).elim λa y=>y.2.2.elim λws p=>p.elim λn p=>(Rs ws n (λy=>y.push wx) p.1).elim λn' hg=>by
 rw [y.1]
 refine call_meets (s:=G.at h tk) yV (show (G.at h tk).TypeIs (.ref a) "list" from ⟨_,p.1,rfl⟩) PySem.F.entry_list_append (PySem.F.args_list_append_2 _ _) (list_append a ws n wx (Qh (bH.symm.trans p.2.1.len▸p.2.1.len) p.2.2)) ⟨p.1,c _ _ tk mu (I.aDz m rfl y.2.1 (.update ..) λK=>⟨⟨_,_,hg,?_,Pm z⟩,rfl⟩)⟩
 rw [lW]
 exact (K.Sr p.2.1).app (jM.one (K.dt qx))
theorem PK {l x:List aE} {wx:aG} (I:Iv G st k h mu) (q:Rep G h ⟨mu,bP k⟩ (.ref r) w) (qx:Dt h (Wd.out ⟨mu,bP k⟩) (.list x) wx) (m:(r,O.list l)∈st.objs) (z:l.length+x.length<=bW):
  Mt G A k h (call (.builtin "list.extend") [w,wx]) (.d .none) (st.put r (.list (l++x))):=λtk E Q c=>(I.obj m q).elim λa y=>y.2.2.elim λws p=>p.elim λn p=>Mr.elim qx λb vs zx eb sq dx=>sq.elim λob n2 Y gb cb db Y=>(Rs ws n (λy=>y++vs) p.1).elim λn' hg=>by
 have l1:ws.size=l.length:=bH.symm.trans p.2.1.len
 have l2:vs.size=x.length:=bH.symm.trans dx.len
 have sl:=lX
 rw [y.1,eb]
 refine call_meets (s:=G.at h tk) yU (show (G.at h tk).TypeIs (.ref a) "list" from ⟨_,p.1,rfl⟩) PySem.F.entry_list_extend (PySem.F.args_list_extend_2 _ _) (Yc a ws n b vs n2 ob.dict ob.slots ?_ ?_ ?_) ⟨p.1,gb.trans (congrArg some (Rb cb db)),c _ _ tk mu (I.aDz m rfl y.2.1 (.update ..) λK=>⟨⟨_,_,hg,?_,by rw [aN];exact z⟩,rfl⟩)⟩
 ·rw [Xe (l1▸l2▸z),mS];exact cP
 ·exact l1▸aB p.2.2 (aB (bJ _) sl)
 ·exact l1▸l2▸aB z (aB (aB (bJ _) sl) (bJ _))
 ·rw [vL]
  exact (K.Sr p.2.1).app (K.Sr dx)
theorem BI {R:α->β->Prop} {x:Option α} {y:Option β} {a:α} {b:β} (r:Cd R x y) (d:R a b):R (x.getD a) (y.getD b):=by
 cases r with
 | none=>exact d
 | some q=>exact q
theorem aLy {kvs:List (Int×V)} {i:Int} {dv:V} {wi wd:aG} (B:Base G) (I:Iv G st k h mu) (q:Rep G h ⟨mu,bP k⟩ (.ref r) w) (qi:Dt h (Wd.out ⟨mu,bP k⟩) (.int i) wi) (qd:Rep G h ⟨mu,bP k⟩ dv wd) (m:(r,O.di kvs)∈st.objs):
  Calm G A h ⟨mu,bP k⟩ ((fF kvs i).getD dv) (call (.builtin "dict.get") [w,wi,wd]):=rF λtk E Q c=>(I.obj m q).elim λa y=>y.2.2.elim λxs p=>aU qi λt et=>by
 rw [y.1,et]
 exact Im (s:=G.at h tk) sO (qP (s:=G.at h tk) p.1) Ay (zO _ _ _) (Av (intKind G.p G.w) a (qO ..) (B.big (I.lo a (aL _ (Bv y.2.1))).1) wd)
  ⟨_,p.1.mapOf,c _ _ (BI (Yk i kvs xs p.2.1) qd)⟩
theorem ZA {kvs:List (Nm×aE)} {x:Str} {dv:aE} {wi wd:aG} (q:Rep G h σ (.sd kvs) w) (qi:Dt h σ.out (.str x) wi) (qd:Dt h σ.out dv wd):
  Calm G A h σ (.d ((Ed kvs x).getD dv)) (call (.builtin "dict.get") [w,wi,wd]):=rF λtk E Q c=>q.elim λa p=>p.elim λf p=>qi.2.elim λt et=>by
 rw [p.1,et]
 exact Im (s:=G.at h tk) sO (Ip (s:=G.at h tk) p.2.2.2.1) Ay (zO _ _ _) (Av (strKind G.p G.w) a (Hc ..) p.2.1 wd) ⟨_,p.2.2.2.1,c _ _ (BI (p.2.2.2.2 x) qd)⟩
theorem Fa {Kd:Type} [DecidableEq Kd] {knd:KeyKind G.p G.w Kd} {d:Addr} {kvs:List (Kd×aG)} {k:Kd} {key dflt:aG} {Q:aG->aK->Prop} (hkey:knd.is k key=true) (hm:s.heap.DictOf knd d kvs)
  (hthere:∀v,valueAt kvs k=some v->Q v {s with toks:=s.toks+1})
  (hnew:valueAt kvs k=none->∀h',h'.DictOf knd d (kvs++[(k,dflt)])->gJ d s.heap h'->Q dflt {s with heap:=h',toks:=s.toks+1})
  (hsz:kvs.length<=sizeLine):
  aO (model G.p G.w) A (dictSetDefault d key dflt) Q E s:=by
 have hMap:=hm.mapOf
 refine hm.elim λo hm=>hm.elim λes hm=>hm.elim λep hm=> ?_
 have hd:=hm.2.2.1
 have hp:=hm.2.2.2.2.1
 have hf:∀k,findBy knd.is es k=valueAt kvs k:=hMap.elim λo' q=>q.elim λes' q=>q.elim λep' q=>by
  have e:=hd.symm.trans ((congrArg Obj.data (aF (hm.1.symm.trans q.1))).trans q.2.2.1)
  rw [(Data.dict.inj e).1];exact q.2.2.2.2
 unfold dictSetDefault
 try with_reducible refine bX ?_
 refine aA (knd.pyHash hkey (aA (wpAny_dictFind_of (s:={s with toks:=s.toks+1}) hkey hm.1 hd hm.2.2.2.1 ?_)))
 cases hi:es.findIdx? λe=>knd.is k e.key with
 | some i=>
  have hlt:i<es.size:=(Array.findIdx?_eq_some_iff_findIdx_eq.mp hi).1
  have hfk:valueAt kvs k=(es[i]?).map (·.val):=by rw [<-hf k,findBy_of_findIdx?,hi]
  refine aA (wpAny_dictEntries (s:={s with toks:=s.toks+1}) hm.1 hd ?_)
  rw [fA hlt] at hfk⊢
  exact aA (nE (aH (hthere _ hfk)))
 | none=>
  have hfk:valueAt kvs k=none:=by rw [<-hf k,findBy_of_findIdx?,hi]
  have hidx:(es.findIdx? λe=>knd.is k e.key)=kvs.findIdx? λkv=>decide (kv.1=k):=by rw [<-hp.findIdx k,<-List.findIdx?_toArray,iG]
  have hnot:k∉kvs.map (·.1):=not_mem_of_findIdx_none (hidx▸hi)
  have hes:es.size<=sizeLine:=by rw [<-bH,hp.length];exact hsz
  refine aA (nE (aA (wpAny_updateDictKeys (hz:=hes) (s:={s with toks:=s.toks+1}) hm.1 hd (aH (hnew hfk _ ⟨_,_,ep+1,hM _ hm.1 (Obj.isFreed_of_dict (Dl hd _)),
   hm.2.1.mapDictKeys _,Dl hd _,hm.2.2.2.1.push hkey _,?_,?_⟩ (gX ..))))))
  ·rw [lW];exact hp.append hkey (knd.hash k) dflt
  ·rw [cS]
   refine bB.mpr ⟨hm.2.2.2.2.2,bV.mpr ⟨bN,.nil⟩,λa ha b hb e=>hnot ?_⟩
   exact (aC.mp hb:b=k)▸e▸ha
theorem Xq {kvs:List (Int×V)} {i:Int} {dv:V} {wi wd:aG} (B:Base G) (I:Iv G st k h mu) (q:Rep G h ⟨mu,bP k⟩ (.ref r) w) (qi:Dt h (Wd.out ⟨mu,bP k⟩) (.int i) wi) (qd:Rep G h ⟨mu,bP k⟩ dv wd) (m:(r,O.di kvs)∈st.objs)
  (e:(match fF kvs i with
   | some v=>pure v
   | none=>do dK (decide (kvs.length<bW));Lw r (.di (kvs++[(i,dv)]));pure dv:M V) st=some (v,st')):
  Mt G A k h (call (.builtin "dict.setdefault") [w,wi,wd]) v st':=λtk E Q c=>(I.obj m q).elim λa y=>y.2.2.elim λxs p=>aU qi λt et=>by
 have f:=Yk (G:=G) i kvs xs p.2.1
 rw [y.1,et]
 have key:MeetsIn G.p G.w (xT ⟨[.ref a,jE i t,wd],[]⟩) (λY R s'=>s'=G.at h tk/\R=wants Q E):=
  .of_wp λA R s' e'=>by
   rw [e'.1,e'.2]
   unfold xT
   refine aA ?_
   unfold Builtin.Dict.keyAndDefault
   refine aA (Cy (qP (s:=G.at h tk) p.1) ?_)
   show aO _ _ (pure (a,jE i t,some wd)) _ _ _
   refine aH ?_
   show aO _ _ (if (a==sysModules)=true then _ else (dictSetDefault a (.int i t) wd>>=_)) _ _ _
   rw [if_neg (by rw [B.big (I.lo a (aL _ (Bv y.2.1))).1];exact cP)]
   refine aA (Fa (s:=G.at h tk) (knd:=intKind G.p G.w) (qO ..) p.1 (λv hv'=>aH ⟨v,rfl,?_⟩) (λhn h' D' hs=>aH ⟨wd,rfl,?_⟩) (Qh p.2.1.len p.2.2))
   ·rw [hv'] at f
    cases hd:fF kvs i with
    | none=>rw [hd] at f;exact nomatch f
    | some u=>
     rw [hd] at f e
     refine pureE (P:=λv st'=>(∀w h' tk' mu',Iv G st' (.v v w::k) h' mu'->Q w (G.at h' tk'))->Q _ _) e (λc=>c _ h _ mu (I.val (.refl h) ?_)) c
     cases f with
     | some q=>exact q
   ·rw [hn] at f
    cases hd:fF kvs i with
    | some u=>rw [hd] at f;exact nomatch f
    | none=>
     rw [hd] at e
     exact fB e λg e=>VT e (P:=λv st'=>(∀w h' tk' mu',Iv G st' (.v v w::k) h' mu'->Q w (G.at h' tk'))->Q _ _) (λc=>c _ _ _ mu (I.aDz m rfl y.2.1 hs λK=>⟨⟨_,D',(dZ.mono (λY Y t=>⟨t.1,Rep.mono K _ _ t.2⟩) _ _ p.2.1).app (dZ.cons ⟨rfl,Rep.mono K _ _ qd⟩ rfl),Pm (of_decide_eq_true g)⟩,Rep.mono K _ _ qd⟩)) c
 exact Im (s:=G.at h tk) uQ (qP (s:=G.at h tk) p.1) PySem.F.entry_dict_setdefault (PySem.F.args_dict_setdefault_3 _ _ _) key ⟨rfl,rfl⟩
end
section
variable {α:Type}
theorem aBd (le:α->α->Bool) (a b:α) (r:List α):ins le a (b::r)=if le a b then a::b::r else b::ins le a r:=rfl
theorem BF (le:α->α->Bool) (a:α) (l:List α):(ins le a l).Perm (a::l):=
 dR (motive:=λl=>(ins le a l).Perm (a::l)) (.refl _) (λb r i=>by
  rw [aBd]
  split
  ·exact .refl _
  ·exact (i.cons b).trans (.swap a b r)) l
theorem Id (le:α->α->Bool) (l:List α):(Sa le l).Perm l:=dR (motive:=λl=>(Sa le l).Perm l) (.refl _) (λa r i=>(BF le a _).trans (i.cons a)) l
theorem iP (l:List Int):(hJ l).Perm l:=Id _ l
theorem kP (l:List (Int×Bool)):(bF l).Perm l:=Id _ l
section
variable (K:α->Int)
theorem Sc (a:α) (l:List α):l.Pairwise (λa b=>K a<=K b)->(ins (λa b=>decide (K a<=K b)) a l).Pairwise (λa b=>K a<=K b):=
 dR (motive:=λl=>l.Pairwise (λa b=>K a<=K b)->(ins (λa b=>decide (K a<=K b)) a l).Pairwise (λa b=>K a<=K b)) (λY=>lE.mpr ⟨cB,.nil⟩) (λb r i h=>by
  have q:=lE.mp h
  rw [aBd]
  split
  ·rename_i e
   have e:=of_decide_eq_true e
   exact lE.mpr ⟨λc hc=>(aJ.mp hc).elim (λx=>x▸e) λx=>aD e (q.1 c x),h⟩
  ·rename_i e
   exact lE.mpr ⟨λc hc=>(aJ.mp ((BF _ a r).mem_iff.mp hc)).elim (λx=>x▸dA (iA.mp λz=>e (decide_eq_true z))) λx=>q.1 c x,i q.2⟩) l
theorem Rz (inj:∀a b,K a=K b->a=b) {l l':List α} (p:l'.Perm l) (h:l'.Pairwise λa b=>K a<=K b):l'=Sa (λa b=>decide (K a<=K b)) l:=List.Perm.eq_of_pairwise (le:=λa b=>K a<=K b) (λa b Y Y h1 h2=>inj a b (dU h1 h2)) h (dR (motive:=λl=>(Sa (λa b=>decide (K a<=K b)) l).Pairwise λa b=>K a<=K b) .nil (λa r i=>Sc K a _ i) l) (p.trans (Id _ l).symm)
end
theorem Ko {x y:Int} (u v:Bool) (h:x<y):2*x+(if u then 1 else 0)<2*y+(if v then 1 else 0):=fH (b:=2*(x+1)) (by rw [uB];cases u<;>exact Gh (by decide) _) (aD (dW h (by decide)) (eM (by cases v<;>decide)))
theorem aMa {k1 k2:Int×Bool} (hb:k1.1≠k2.1):decide (k1.1<k2.1)=decide (Kp k1<Kp k2):=decide_eq_decide.2 ⟨Ko _ _,λh=>(qQ hb).elim id λg=>absurd (Ko _ _ g) (Int.lt_asymm h)⟩
theorem SN (a b:Int×Bool) (h:Kp a=Kp b):a=b:=by
 cases a with | mk a u=>cases b with | mk b v=>
 have e:a=b:=pV λn=>(qQ n).elim (λl=>nI (Ko u v l) h) λl=>nI (Ko v u l) h.symm
 subst e
 have h:=pZ (show 2*a+(if u then 1 else 0)=2*a+(if v then 1 else 0) from h)
 revert h
 cases u<;>cases v
 ·exact λY=>rfl
 ·exact λh=>absurd h (by decide)
 ·exact λh=>absurd h (by decide)
 ·exact λY=>rfl
noncomputable def aNc (k:List (Nat×Nat×Bool)) (x y:Nat):Bool:=k.any (λp=>p.1==y&&p.2.1==x&& !p.2.2)||k.any (λp=>p.1==x&&p.2.1==y&&p.2.2)
noncomputable def aOo (k:List (Nat×Nat×Bool)) (f:Nat):Nat->Nat->Bool:=Nat.rec (λx y=>aNc k x y) (λY i x y=>aNc k x y||(gH 4).any λz=>aNc k x z&&i z y) f
noncomputable def ZU (k:List (Nat×Nat×Bool)):List Nat->Bool
 | []=>true
 | a::r=>(match r with
  | []=>true
  | b::_=>aOo k 2 a b)&&ZU k r
noncomputable def aMz (n:Nat) (k:List (Nat×Nat×Bool)):KasT (Array Nat)->Bool
 | .ret a=>a.toList.isPerm (gH n)&&ZU k a.toList
 | .ask i j f=>decide (i<n)&&decide (j<n)&&aMz n ((i,j,true)::k) (f true)&&aMz n ((i,j,false)::k) (f false)
theorem WE {n:Nat} (h2:2<=n) (h4:n<=4):aMz n [] (kas_sort n)=true:=by
 rcases jF h4 with h | rfl
 ·rcases jF (jZ h) with h | rfl
  ·rw [Nx (jZ h) h2];decide+kernel
  ·decide+kernel
 ·decide+kernel
theorem Vm {K:Nat->Int} {k:List (Nat×Nat×Bool)} (hk:∀p∈k,decide (K p.1<K p.2.1)=p.2.2) {i j:Nat} {b:Bool} {f:Nat×Nat×Bool->Bool} (hf:∀p,f p=true->p.1=i/\p.2.1=j/\p.2.2=b) (h:k.any f=true):decide (K i<K j)=b:=(mP.mp h).elim λp q=>have e:=hf p q.2;e.1▸e.2.1▸e.2.2▸hk p q.1
theorem EG {K:Nat->Int} {k:List (Nat×Nat×Bool)} (hk:∀p∈k,decide (K p.1<K p.2.1)=p.2.2) {x y:Nat} (h:aNc k x y=true):K x<=K y:=
 (gY.mp h).elim (λh=>dD.mp (of_decide_eq_false (Vm hk (λp e=>by
  have e:=aM.mp e
  have e':=aM.mp e.1
  exact ⟨beq_iff_eq.mp e'.1,beq_iff_eq.mp e'.2,by cases q:p.2.2 with | false=>rfl | true=>rw [q] at e;exact lH e.2⟩) h))) λh=>dA (of_decide_eq_true (Vm hk (λp e=>by
  have e:=aM.mp e
  have e':=aM.mp e.1
  exact ⟨beq_iff_eq.mp e'.1,beq_iff_eq.mp e'.2,e.2⟩) h))
theorem aEx {K:Nat->Int} {k:List (Nat×Nat×Bool)} (hk:∀p∈k,decide (K p.1<K p.2.1)=p.2.2) (f:Nat):∀x y,aOo k f x y=true->K x<=K y:=Nat.rec (motive:=λf=>∀x y,aOo k f x y=true->K x<=K y) (λx y h=>EG hk h) (λf i x y h=>(gY.mp h).elim (EG hk) λh=>(mP.mp h).elim λz q=>have q:=aM.mp q.2;aD (EG hk q.1) (i z y q.2)) f
theorem MB {K:Nat->Int} {k:List (Nat×Nat×Bool)} (hk:∀p∈k,decide (K p.1<K p.2.1)=p.2.2) (l:List Nat):ZU k l=true->l.Pairwise λa b=>K a<=K b:=
 dR (motive:=λl=>ZU k l=true->l.Pairwise λa b=>K a<=K b) (λY=> .nil) (λa r i h=>by
  have h:=aM.mp h
  have i:=i h.2
  refine lE.mpr ⟨?_,i⟩
  cases r with
  | nil=>exact cB
  | cons b r=>
   have ab:=aEx hk 2 a b h.1
   exact λc hc=>(aJ.mp hc).elim (λe=>e▸ab) λhc=>aD ab ((lE.mp i).1 c hc)) l
theorem Xc {K:Nat->Int} {cmp:Nat->Nat->(Bool->aK->Prop)->aK->Prop} {n:Nat} {s:aK} {Q:Array Nat->aK->Prop} (hc:∀i j (C:Bool->aK->Prop),i<n->j<n->C (decide (K i<K j)) s->cmp i j C s)
  (q:∀a:Array Nat,a.toList.Perm (gH n)->a.toList.Pairwise (λa b=>K a<=K b)->Q a s):∀ (t:KasT (Array Nat)) (k:List (Nat×Nat×Bool)),(∀p∈k,decide (K p.1<K p.2.1)=p.2.2)->aMz n k t=true->t.kasWp cmp Q s
 | .ret a=>λk hk h=>have h:=aM.mp h;q a (List.isPerm_iff.mp h.1) (MB hk _ h.2)
 | .ask i j f=>λk hk h=>by
  have h:=aM.mp h
  have h':=aM.mp h.1
  have h'':=aM.mp h'.1
  refine hc i j _ (of_decide_eq_true h''.1) (of_decide_eq_true h''.2) ?_
  cases e:decide (K i<K j) with
  | true=>exact Xc hc q (f true) _ (λp m=>(aJ.mp m).elim (λx=>by rw [x];exact e) (hk p)) h'.2
  | false=>exact Xc hc q (f false) _ (λp m=>(aJ.mp m).elim (λx=>by rw [x];exact e) (hk p)) h.2
theorem CE {x:aE} {k:Int×Bool} (h:Yx x=some k):x=lI k:=by
 refine (bR.mp h).elim λl p=>(bR.mp p.2).elim λt p'=>(bR.mp p'.2).elim λs q=>(bR.mp q.2).elim λb q'=>(bR.mp q'.2).elim λu q''=> ?_
 rw [Vx p.1]
 have el:l=[t.1,t.2.1,t.2.2]:=by
  have e:=p'.1
  cases l with
  | nil=>exact cC e
  | cons a l=>
  cases l with
  | nil=>exact cC e
  | cons b l=>
  cases l with
  | nil=>exact cC e
  | cons c l=>
  cases l with
  | nil=>rw [<-aF e]
  | cons d l=>exact cC e
 have e:=q''.2
 split at e
 ·rename_i es
  rw [el,RM q.1,Kk q'.1,ES q''.1,es,<-aF e];rfl
 ·exact cC e
theorem wD (l:List aE):∀ks,Fz l=some ks->l=ks.map lI:=
 dR (motive:=λl=>∀ks,Fz l=some ks->l=ks.map lI) (λks h=>by rw [<-aF h];rfl)
  (λx l i ks h=>(bR.mp h).elim λk p=>(bO.mp p.2).elim λr q=>by rw [<-q.2,i r q.1,CE p.1];rfl) l
theorem pK (l:List aE):∀is,intsOf l=some is->l=is.map .int:=
 dR (motive:=λl=>∀is,intsOf l=some is->l=is.map .int) (λks h=>by rw [<-aF h];rfl)
  (λx l i ks h=>(bR.mp h).elim λk p=>(bO.mp p.2).elim λr q=>by rw [<-q.2,i r q.1,Kk p.1];rfl) l
end
section
variable {G:Gr} {A:dT} {E:aG->aK->Prop} {s:aK} {h h':Heap} {P P':Addr->Prop}
noncomputable def Fe (h:Heap) (k:Int×Bool) (v:aG):Prop:=∃t o n t1 t2,v= .ref t/\h.get? t=some o/\o.cls= .type "tuple"/\o.data= .seq #[.str Nm.oP.str t1,.int k.1 t2,.bool k.2] n
theorem Dt.bit {k:Int×Bool} {w:aG} (d:Dt h P (lI k) w):Fe h k w:=
 Mr.elim d λa vs z e s d=>s.elim λo n Y g c q Y=>jM.elim d λw1 r1 e1 d1 d=>jM.elim d λw2 r2 e2 d2 d=>jM.elim d λw3 r3 e3 d3 d=>d1.2.elim λt1 f1=>aU d2 λt2 f2=>
  ⟨a,o,n,t1,t2,e,g,c,by rw [q,show vs= #[.str Nm.oP.str t1,.int k.1 t2,.bool k.2] from Lj.mp (by rw [e1,e2,e3,f1,f2,show w3= .bool k.2 from d3,show r3=[] from d])]⟩
theorem Fe.keep {k:Int×Bool} {v:aG} (b:Fe h k v) (q:∀a o,h.get? a=some o->o.cls= .type "tuple"->h'.get? a=some o):Fe h' k v:=b.elim λt b=>b.elim λo b=>b.elim λn b=>b.elim λt1 b=>b.elim λt2 b=>⟨t,o,n,t1,t2,b.1,q _ _ b.2.1 b.2.2.1,b.2.2⟩
theorem ZF:∀ (ks:List (Int×Bool)) (vs:List aG),jM h P (ks.map lI) vs->dZ (Fe h) ks vs:=dR (λY e=>e) λk ks i vs d=>jM.elim d λw r e a b=>e▸dZ.cons (Dt.bit a) (i r b)
theorem dZ.get {α β:Type} {R:α->β->Prop} {a:α} {b:β} {xs:List α}:∀ {ys:List β},dZ R xs ys->∀i,i<xs.length->R (xs.getD i a) (ys.getD i b):=
 dR (motive:=λxs=>∀ {ys:List β},dZ R xs ys->∀i,i<xs.length->R (xs.getD i a) (ys.getD i b)) (λY Y h=>absurd h (Nu _)) (λx xs ih ys r i h=>r.elim λy q e a b=>by
  rw [e]
  cases i with
  | zero=>exact a
  | succ i=>exact ih b i (Bc h)) xs
theorem PY (ks:List (Int×Bool)):∀vs:List aG,dZ (Fe h) ks vs->∃fs:List aG,fs.length=vs.length/\KatTups h vs fs/\∀v∈fs,∃t,v= .str Nm.oP.str t:=
 dR (motive:=λks=>∀vs:List aG,dZ (Fe h) ks vs->∃fs:List aG,fs.length=vs.length/\KatTups h vs fs/\∀v∈fs,∃t,v= .str Nm.oP.str t) (λvs e=>by rw [show vs=[] from e];exact ⟨[],rfl,.nil,cB⟩)
  (λk ks i vs r=>r.elim λy q e a b=>(i q b).elim λfs f=>a.elim λt b=>b.elim λo b=>b.elim λn b=>b.elim λt1 b=>b.elim λt2 b=>by
   rw [e,b.1]
   exact ⟨.str Nm.oP.str t1::fs,congrArg (· +1) f.1,KatTups.cons b.2.1 b.2.2.1 b.2.2.2 rfl f.2.1,λv hv=>(aJ.mp hv).elim (λe=>⟨t1,e⟩) (f.2.2 v)⟩) ks
theorem aGp {k1 k2:Int×Bool} {v1 v2:aG} {Q:Bool->aK->Prop} (hu:A.units<cLine) (b1:Fe s.heap k1 v1) (b2:Fe s.heap k2 v2)
  (h:Q (decide (Kp k1<Kp k2)) s):aO (model G.p G.w) A (keyLt' (tuples' true) v1 v2) Q E s:=by
 refine b1.elim λt b=>b.elim λo b=>b.elim λn b=>b.elim λt1 b=>b.elim λt2 b=>b2.elim λt' b'=>b'.elim λo' b'=>b'.elim λn' b'=>b'.elim λt1' b'=>b'.elim λt2' b'=> ?_
 rw [b.1,b'.1]
 refine kat_lt b.2.1 b.2.2.2 b'.2.1 b'.2.2.2 (kat_cons (wpAny_eqBool_str ?_))
 rw [decide_eq_true rfl]
 refine kat_yes (kat_cons (wpAny_eqBool_int ?_))
 clear b b' b1 b2
 by_cases hb:k1.1=k2.1
 ·have h':Q (decide (2*k1.1+(if k1.2 then 1 else 0)<2*k2.1+(if k2.2 then 1 else 0))) s:=h
  rw [hb] at h'⊢
  rw [beq_self_eq_true]
  refine kat_yes (kat_cons (aBi (P:=Ar) (show Dt s.heap Ar (.bool k1.2) (.bool k1.2) from rfl) (show Dt s.heap Ar (.bool k2.2) (.bool k2.2) from rfl) hu ?_))
  have q (c:Bool) (e:c=decide (2*k2.1+(if k1.2 then 1 else 0)<2*k2.1+(if k2.2 then 1 else 0))):Q c s:=by
   rw [e];exact h'
  clear h h'
  generalize k1.2=u at q⊢
  generalize k2.2=u' at q⊢
  cases u<;>cases u'
  ·exact kat_yes (kat_nil (q _ (decide_eq_false (zB _)).symm))
  ·exact kat_no (kat_one _ _ (lt_bool (q _ (decide_eq_true (Gh (by decide) _)).symm)))
  ·exact kat_no (kat_one _ _ (lt_bool (q _ (decide_eq_false (dD.mpr (fM (by decide) _))).symm)))
  ·exact kat_yes (kat_nil (q _ (decide_eq_false (zB _)).symm))
 ·rw [beq_false_of_ne hb]
  refine kat_no (kat_one _ _ (wpAny_lt_int (show Q _ _ from ?_)))
  rw [aMa (λe=>hb e)]
  exact h
theorem Sub.push (h:Heap) (o:Obj):Sub h (h.push o):=λY Y e=>bI _ e
theorem Zt (h:Heap) (a:Addr) (vs:List aG) (out:Array aG):(sortedHeap h a vs out).objs.size=h.objs.size+2:=by
 unfold sortedHeap
 rw [pN,He,He,pN]
theorem Zu (h:Heap) (a:Addr) (vs:List aG) (out:Array aG):cU [a] h (sortedHeap h a vs out):=⟨λb o x e=>by rw [sortedHeap_old (λy=>x (aC.mpr y)) (dG e)];exact e,by rw [Zt];exact aS _ 2⟩
theorem Ie {α:Type} (l:List α) (d:α):(gH l.length).map (λi=>l.getD i d)=l:=Lg (by rw [aI,oH]) λi h1 h2=>by rw [List.getElem_map,Hi,cD,bZ h2,Option.getD_some]
theorem DL:∀ks:List (Int×Bool),ks.length<2->ks=bF ks
 | []=>λY=>rfl
 | [x]=>λY=>rfl
 | _::_::_=>λh=>absurd h (fG.mpr (fN 2 _))
theorem Rt {a:Addr} {vs:List aG} {ks:List (Int×Bool)} {k:Nat} {P:Fin->aK->Prop} (hu:A.units<cLine) (ho:s.heap.get? a=some (seqObj "list" vs.toArray k))
  (hI:dZ (Fe s.heap) ks vs) (h4:ks.length<=4)
  (h:∀p:List Nat,p.Perm (gH ks.length)->(p.map λi=>ks.getD i (0,false))=bF ks->P (.done (.ret .none)) {s with heap:=sortedHeap s.heap a vs (p.map λi=>vs.getD i jD).toArray}):
  aO (model G.p G.w) A (Ge ⟨[.ref a],[]⟩) P E s:=by
 rw [list_sort_plain]
 have ha:a<s.heap.objs.size:=dG ho
 have hlen:=hI.len
 have hsz:vs.toArray.size=vs.length:=oG
 have zz:vs.length<=sizeLine:=hlen▸aB h4 (by decide)
 refine aA (listItems_at ho rfl (aA (Gq ho rfl ?_ (hsz▸zz) (fJ _))))
 refine aU (⟨_,get?_update_seq ho (λY=> #[])⟩:∃e1,(s.heap.update a (mF λY=> #[])).get? a=some (seqObj "list" #[] e1)) λe1 ho1=> ?_
 refine aA (Mx ho1 rfl (aA (wH (aA (tM (bX ?_) (fJ _))) zz)))
 have ho6:(((s.heap.update a (mF λY=> #[])).push (seqObj "tuple" vs.toArray 0)).push (seqObj "list" #[] 0)).get? a=some (seqObj "list" #[] e1):=Sub.push _ _ _ _ (Sub.push _ _ _ _ ho1)
 have hI':dZ (Fe (((s.heap.update a (mF λY=> #[])).push (seqObj "tuple" vs.toArray 0)).push (seqObj "list" #[] 0))) ks vs:=dZ.mono (λk v b=>b.keep λc o e q=>Sub.push _ _ _ _ (Sub.push _ _ _ _ ((Gc _ _ _ _ λx=>by
  rw [x] at e
  rw [aF (e.symm.trans ho)] at q
  exact nomatch (show Ps "list"= .type "tuple" from q)).trans e))) _ _ hI
 show aO (model G.p G.w) A _ P E {s with heap:=((s.heap.update a (mF λY=> #[])).push (seqObj "tuple" vs.toArray 0)).push (seqObj "list" #[] 0)}
 dsimp only
 by_cases h2:vs.toArray.size<2
 ·rw [if_pos h2,if_pos h2]
  refine aA (aH ?_)
  rw [StateT.run_pure]
  refine aA (aH ?_)
  dsimp only
  refine aA (Mx ho6 rfl ?_)
  refine aA (Gq ho6 rfl ?_ (fJ _) (by rw [Array.size_map];show (Dp vs).size<=_;rw [pairsOf_size];exact gK zz))
  simp only [bne_self_eq_false,Hm,if_false]
  have:=h (gH ks.length) (.refl _) (by
   rw [Ie]
   exact DL ks (by rw [<-hlen,<-hsz];exact h2))
  rw [show ((gH ks.length).map λi=>vs.getD i jD).toArray=(arrOf (SortSt.mk' general' (vs.toArray.zip vs.toArray) #[] 7 none)).map (·.2) by
   rw [<-hlen,Ie]
   apply Lj.mp
   rw [Array.toList_map]
   show vs=((Dp vs).toList).map (·.2)
   rw [pairsOf_toList,Ld (bM _)]] at this
  exact aH this
 ·rw [if_neg h2,if_neg h2]
  have h2:2<=vs.length:=hsz▸fG.mp h2
  have h64:vs.length<64:=hlen▸aX h4 (by decide)
  refine (PY ks vs hI').elim λfs f=> ?_
  refine aA (kat_kind (T:= .type "str") (s:={s with heap:=((s.heap.update a (mF λY=> #[])).push (seqObj "tuple" vs.toArray 0)).push (seqObj "list" #[] 0)}) f.2.1 (f.1▸bA (by decide) h2) (λv hv=>(f.2.2 v hv).elim λt e=>e▸Looks.of_pure rfl) rfl ?_)
  rw [show (Ps "str" != Ps "tuple")=true by decide]
  refine aA (gN (kat_run (ks:=vs) (vs:=vs) (κ:=tuples' true) (s:={s with heap:=((s.heap.update a (mF λY=> #[])).push (seqObj "tuple" vs.toArray 0)).push (seqObj "list" #[] 0)})
   (G:=λp s'=>s'={s with heap:=((s.heap.update a (mF λY=> #[])).push (seqObj "tuple" vs.toArray 0)).push (seqObj "list" #[] 0)}/\p.toList.Perm (gH ks.length)/\p.toList.Pairwise λa b=>Kp (ks.getD a (0,false))<=Kp (ks.getD b (0,false)))
   (Q:=λst' s'=>s'={s with heap:=((s.heap.update a (mF λY=> #[])).push (seqObj "tuple" vs.toArray 0)).push (seqObj "list" #[] 0)}/\∃p:Array Nat,(p.toList.Perm (gH ks.length)/\p.toList.Pairwise λa b=>Kp (ks.getD a (0,false))<=Kp (ks.getD b (0,false)))/\arrOf st'=p.map (kas_item (vs.toArray.zip vs.toArray))/\failedOf st'=none)
   rfl h2 h64 (λp st' s' a1 a2 a3 a4=>⟨a4.1,p,a4.2,a2,a3⟩) ?_) ?_ λY Y e=>e)
  ·rw [hlen]
   exact Xc (n:=ks.length) (K:=λi=>Kp (ks.getD i (0,false))) (λi j C hi hj hC=>aGp hu (dZ.get hI' i hi) (dZ.get hI' j hj) hC) (λp a1 a2=>⟨rfl,a1,a2⟩) _ [] cB (WE (hlen▸h2) h4)
  ·rintro ⟨⟨⟩,st'⟩ s' ⟨rfl,p,hp,har,hf⟩
   dsimp only
   rw [kat_snds (ks:=vs) (vs:=vs) rfl har]
   refine aA (Mx ho6 rfl ?_)
   refine aA (Gq ho6 rfl ?_ (fJ _) (by rw [oG,aI,hp.1.length_eq,oH,<-hlen];exact gK zz))
   rw [hf]
   simp only [bne_self_eq_false,Hm,if_false]
   refine aH (h _ hp.1 (Rz Kp SN ?_ (lT.mpr hp.2)))
   have q:=hp.1.map (λi=>ks.getD i (0,false))
   rw [Ie] at q
   exact q
end
theorem Lr {M:Model} {Γ:Ctx} {p:Pos} {t:Sem Fin} {fs:List Frame} {s s':aK} {e:End} (h:Runs M Γ p t fs s e s'):s.heap.objs.size<=s'.heap.objs.size:=by
 induction h with
 | update _ _ ih=>exact aB (bT (pN ..).symm) ih
 | alloc _ ih=>exact aB (aB (bJ _) (bT (He ..).symm)) ih
 | call _ _ i1 i2=>exact aB i1 i2
 | resumeFresh _ _ _ _ i1 i2=>exact aB i1 i2
 | resumeSuspended _ _ _ _ i1 i2=>exact aB i1 i2
 | segRet _ _ i1 i2=>exact aB i1 i2
 | segGen _ _ i1 i2=>exact aB i1 i2
 | segSuspGen _ _ _ _ i1 i2=>exact aB i1 i2
 | _=>first | exact bM _ | assumption
theorem JH {M:Model} {Γ:Ctx} {p:Pos} {g:Nat} {c:Sem Fin} {P Q:End->Prop} {s s':aK} (h:∃e s₁,Runs M Γ p c [] (s.setGen g .running) e s₁/\P e/\Q e/\s'=s₁.setGen g e.genState):s.heap.objs.size<=s'.heap.objs.size:=h.elim λe h=>h.elim λs₁ h=>by rw [h.2.2.2];exact (Lr h.1:)
theorem Lp {P:Prop} {g:Nat} {s s':aK} (h:P/\s'=s):s.heap.objs.size<=s'.heap.objs.size:=by rw [h.2];exact bM _
theorem DE {M:Model} {Γ:Ctx} {p:Pos} {g:Nat} {r:Resume} {s s':aK} {res:GenResult} (h:Wakes M Γ p g r s res s'):s.heap.objs.size<=s'.heap.objs.size:=by
 unfold Wakes at h
 revert h
 cases s.gens[g]? with
 | none=>exact False.elim
 | some x=>
  cases x with
  | fresh c=>
   cases r with
   | send v=>
    cases v with
    | none=>exact JH
    | _=>exact Lp (g:=g)
   | throw x=>exact λh=>by rw [h.2];exact bM _
  | suspended k₀ v c₀ p₀ fs l=>exact λh=>h.elim λe h=>h.elim λs₁ h=>by rw [h.2.2.2];exact (Lr h.1:)
  | running=>exact Lp (g:=g)
  | finished=>exact Lp (g:=g)
theorem UL {α:Type} (M:Model) (Γ:Ctx) (z:Nat):∀ (t:Sem α) (Q:α->Pos->aK->Prop) (E:aG->Pos->aK->Prop) (p:Pos) (s:aK),z<=s.heap.objs.size->
  Sem.wp M Γ t Q E p s->Sem.wp M Γ t (λa p' s'=>Q a p' s'/\z<=s'.heap.objs.size) (λe p' s'=>E e p' s'/\z<=s'.heap.objs.size) p s:=by
 intro t
 induction t with
 | pure a=>exact λQ E p s hz h=>⟨h,hz⟩
 | raise e=>exact λQ E p s hz h=>⟨h,hz⟩
 | update a part f k ih=>exact λQ E p s hz h=>⟨h.1,ih _ _ _ _ _ (aB hz (bT (pN ..).symm)) h.2⟩
 | alloc o k ih=>exact λQ E p s hz h=>ih _ _ _ _ _ (aB hz (aB (bJ _) (bT (He ..).symm))) h
 | load a part k ih=>exact λQ E p s hz h=>h.imp λo h=>⟨h.1,ih _ _ _ _ _ hz h.2⟩
 | call c hd g l k ih=>exact λQ E p s hz h=>h.imp λr h=>h.imp λs' h=>⟨h.1,ih _ _ _ _ _ (aB hz (Lr h.1)) h.2⟩
 | resume g r l k ih=>exact λQ E p s hz h=>h.imp λr h=>h.imp λs' h=>⟨h.1,ih _ _ _ _ _ (aB hz (DE h.1)) h.2⟩
 | choose src n k ih=>exact λQ E p s hz h=>⟨h.1,ih _ _ _ _ _ hz h.2⟩
 | genState g k ih=>exact λQ E p s hz h=>h.imp λo h=>⟨h.1,ih _ _ _ _ _ hz h.2⟩
 | rule _ k ih=>exact λQ E p s hz h=>ih _ _ _ _ _ hz h
 | «at» _ k ih=>exact λQ E p s hz h=>ih _ _ _ _ _ hz h
 | loadIfAlive _ k ih=>exact λQ E p s hz h=>ih _ _ _ _ _ hz h
 | point _ k ih=>exact λQ E p s hz h=>ih _ _ _ _ _ hz h
 | fresh k ih=>exact λQ E p s hz h=>ih _ _ _ _ _ hz h
 | ask k ih=>exact λQ E p s hz h=>ih _ _ _ _ _ hz h
 | os q l k ih=>exact λQ E p s hz h=>ih _ _ _ _ _ hz h
 | handled own k ih=>exact λQ E p s hz h=>ih _ _ _ _ _ hz h
 | newGen c k ih=>exact λQ E p s hz h=>ih _ _ _ _ _ hz h
 | stack k ih=>exact λQ E p s hz h=>ih _ _ _ _ _ hz h
 | thread k ih=>exact λQ E p s hz h=>ih _ _ _ _ _ hz h
 | unsupported _=>exact λQ E p s hz h=>h.elim
 | finish _=>exact λQ E p s hz h=>h.elim
 | register _ k _=>exact λQ E p s hz h=>h.elim
 | yield _ _ _ k _=>exact λQ E p s hz h=>h.elim
 | fork _ k _=>exact λQ E p s hz h=>h.elim
 | await _ _ _ _ k _=>exact λQ E p s hz h=>h.elim
theorem iB {α:Type} {M:Model} {A:dT} {t:Sem α} {Q:α->aK->Prop} {E:aG->aK->Prop} {s:aK} (h:aO M A t (λa s'=>s.heap.objs.size<=s'.heap.objs.size->Q a s') E s):aO M A t Q E s:=λΓ p hΓ=>Sem.wp_mono M Γ t (λY Y Y h=>h.1 h.2) (λY Y Y h=>h.1) p s (UL M Γ _ t _ _ p s (bM _) (h Γ p hΓ))
section
variable {G:Gr} {A:dT} {k:List It} {st st':St} {h h':Heap} {σ:Wd} {mu:List Addr} {v:V} {w w1 w2:aG} {E:aG->aK->Prop} {s:aK} {P:Addr->Prop} {l:List aE}
theorem Ez (is:List Int):∀ws:List aG,jM h P (is.map .int) ws->lR ws is:=dR (motive:=λis=>∀ws:List aG,jM h P (is.map .int) ws->lR ws is) (λws e=>by rw [show ws=[] from e];exact .nil) (λi is ih ws d=>jM.elim d λw r e a b=>aU a λt q=>by rw [e,q];exact .cons i t (ih r b)) is
theorem uK {is:List Int} {ws:List aG} (r:lR ws is):jM h P (is.map .int) ws:=by
 induction r with
 | nil=>exact rfl
 | cons i t _ ih=>exact jM.cons ⟨t,rfl⟩ ih
theorem cU.upd (kp:cU [] h h') {a:Addr} (ha:h.objs.size<=a) (f:Obj->Obj):cU [] h (h'.update a f):=⟨λb o x e=>(Gc _ _ _ _ (fX (bA (dG e) ha))).trans (kp.1 b o x e),by rw [pN];exact kp.2⟩
theorem cU.sorted (kp:cU [] h h') {a:Addr} (ha:h.objs.size<=a) (vs:List aG) (out:Array aG):cU [] h (sortedHeap h' a vs out):=(((kp.upd ha _).trans ((cU.push _ _).trans (.push _ _))).upd ha _)
noncomputable def aPf (G:Gr) (A:dT) (h:Heap) (v:aG) (D:List aG->Prop):Prop:=∀tk E (Q:List aG->aK->Prop),(∀vs h' tk',cU [] h h'->D vs->Q vs (G.at h' tk'))->aO (model G.p G.w) A (collect v) Q E (G.at h tk)
theorem Bz {prog:tO} {w:Mu} {a:Addr} {T:String} {o:Obj} {items:Array aG} {n:Nat} {Q:List aG->aK->Prop} (hT:T="list"\/T="tuple") (ho:s.heap.get? a=some o) (hc:o.cls= .type T) (hd:o.data= .seq items n) (hz:items.size<=sizeLine)
  (q:∀h',cU [] s.heap h'->Q items.toList {s with heap:=h'}):aO (model prog w) A (collect (.ref a)) Q E s:=iB (wpAny_collect_seq a hT ho hc hd (λh' kp z=>q h' ⟨λb o Y e=>kp b o e,z⟩) hz)
theorem YS (b:Fb h σ l w):aPf G A h w (jM h σ.out l):=λtk E Q q=>b.elim λa r=>r.elim λws r=>by
 rw [r.1]
 have z:ws.size<=sizeLine:=Qh (bH.symm.trans r.2.2.1.len▸r.2.2.1.len) r.2.2.2
 exact r.2.1.elim (λs=>s.elim λo s=>s.2.2.elim λn d=>Bz (s:=G.at h tk) (.inr rfl) s.1 s.2.1 d z λh' kp=>q _ h' tk kp r.2.2.1) λs=>s.elim λo s=>s.2.2.elim λn d=>Bz (s:=G.at h tk) (.inl rfl) s.1 s.2.1 d z λh' kp=>q _ h' tk kp r.2.2.1
theorem BW {T:String} {r d:Addr} {n:Nat} {P:Nat->aG->Prop} {OK:Heap->Prop} (K:KdlSrc G.p G.w T r d n P OK) (hh:A.handled=none) (hok:OK h) (hn:n<=sizeLine):aPf G A h (.ref r) (λvs=>Oq P vs.toArray n):=λtk E Q q=>by
 have hlt:=K.there _ hok
 unfold collect
 refine aA (wpAny_runValue (kD entry_proto_collect' ?_))
 rw [iD PySem.F.plain_proto_collect _]
 show aO _ A.in1 (newList []>>=λl=>again (.builtin "list.__iadd__" ⟨[l,.ref r],[]⟩)) _ _ _
 refine aA (iL (aH ⟨tN zM _,kD entry_list_iadd' ?_⟩))
 rw [iD zM _]
 have hS₁:(h.push {cls:= .type "list",data:= .seq ([]:List aG).toArray}).get? h.objs.size=some {cls:= .type "list",data:= .seq #[]}:=bC _ rfl
 show aO _ A.in1 (Builtin.List.listExtendWith (.ref h.objs.size) (.ref r) (.ref h.objs.size)) _ _ _
 have fin {h':Heap} {tk':Nat} {acc:Array aG} {c:Nat} (hk:cU [] h h') (hS:h'.get? h.objs.size=some {cls:= .type "list",dict:=none,data:= .seq acc c,slots:= #[]}) (hacc:Oq P acc n):aO (model G.p G.w) A (load h.objs.size>>=λo=>match o.data with
     | Data.seq xs _=>pure xs.toList
     | _=>unsupported "internal:collect") Q E (G.at h' tk'):=aA (wpAny_load hS (aH (q _ h' tk' hk (show Oq P acc.toList.toArray n by rw [iG];exact hacc))))
 refine gN (kdl_extend (A:=A) (s:=G.at (h.push {cls:= .type "list",data:= .seq ([]:List aG).toArray}) tk)
  (R:=λ(q:wJ) (s':aK)=>∃ (h':Heap) (tk':Nat) (acc':Array aG) (c':Nat),q= .ok (.ret (.ref h.objs.size))/\s'=G.at h' tk'/\cU [] h h'/\h'.get? h.objs.size=some {cls:= .type "list",dict:=none,data:= .seq acc' c',slots:= #[]}/\Oq P acc' n)
  K hh (K.keep _ _ hok λb Y o e=>bI _ e) h.objs.size (vO hlt.1) (vO hlt.2) (.ref h.objs.size) 0 hS₁
  (λh' tk' acc' c' hk hS' hacc=>⟨h',tk',acc',c',rfl,rfl,⟨λb o Y e=>hk b o (fX (dG e)) (bI _ e),iN (dG hS')⟩,hS',hacc⟩) hn) (λfin' s' x=> ?_) λe s' x=>x.elim λY x=>x.elim λY x=>x.elim λY x=>x.elim λY x=>nomatch x.1
 cases fin' with
 | done f=>exact x.elim λY x=>x.elim λY x=>x.elim λY x=>x.elim λY x=>by cases x.1;cases x.2.1;exact fin x.2.2.1 x.2.2.2.1 x.2.2.2.2
 | again c₁=>exact ⟨x.1,Il x.2 λq s₂ x=>x.elim λY x=>x.elim λY x=>x.elim λY x=>x.elim λY x=>by cases x.1;cases x.2.1;exact fin x.2.2.1 x.2.2.2.1 x.2.2.2.2⟩
noncomputable def aOz (G:Gr) (A:dT) (D:List aG->Prop) (h₀:Heap) (R:Heap->List aG->Prop):Prop:=∀h tk a k (vs:List aG) E (P:Fin->aK->Prop),cU [] h₀ h->D vs->h.get? a=some (seqObj "list" vs.toArray k)->
 (∀out:Array aG,R (sortedHeap h a vs out) out.toList->P (.done (.ret .none)) (G.at (sortedHeap h a vs out) tk))->aO (model G.p G.w) A (Ge ⟨[.ref a],[]⟩) P E (G.at h tk)
theorem Jp {is:List Int} (z:is.length<=63):aOz G A (λvs=>lR vs is) h (λY out=>lR out (hJ is)):=λh' tk a k vs E P kp d ho q=>
 list_sort_tree (s:=G.at h' tk) ho d (by have:=(uK (h:=h) (P:=Ar) d).len;rw [aI] at this;rw [this];exact oE z) λout ns' a1 a2 a3=>q out (show lR out.toList (hJ is) by rw [show hJ is=ns' from (Rz (λx=>x) (λY Y e=>e) a2 a3).symm];exact a1)
theorem OP {ks:List (Int×Bool)} {vs:List aG} (d:jM h P (ks.map lI) vs) (p:List Nat):(∀i∈p,i<ks.length)->jM h P ((p.map λi=>ks.getD i (0,false)).map lI) (p.map λi=>vs.getD i jD):=
 dR (motive:=λp=>(∀i∈p,i<ks.length)->jM h P ((p.map λi=>ks.getD i (0,false)).map lI) (p.map λi=>vs.getD i jD)) (λY=>rfl) (λi p ih b=>by
  have hi:=b i (.head _)
  refine jM.cons ?_ (ih λj x=>b j (.tail _ x))
  exact (d.get (i:=i) (x:=lI ks[i]) (by rw [lU,bZ hi];rfl)).elim λw q=>by show Dt h P (lI (ks.getD i (0,false))) (vs.getD i jD);rw [cD,cD,q.1,bZ hi];exact q.2) p
theorem Zs {ks:List (Int×Bool)} (u:A.units<cLine) (z:ks.length<=4):aOz G A (jM h P (ks.map lI)) h (λY out=>jM h P ((bF ks).map lI) out):=λh' tk a k vs E Pq kp d ho q=>
 Rt (s:=G.at h' tk) u ho (dZ.mono (λY Y b=>b.keep λc o e Y=>kp.sub c o e) _ _ (ZF ks vs d)) z λp hp e=>q _ (e▸OP d p λi hi=>oV.mp (hp.mem_iff.mp hi))
theorem Fg {D:List aG->Prop} {R:Heap->List aG->Prop} {r:List aE} (I:Iv G st k h mu) (c:aPf G A.in1 h w D) (z:∀vs,D vs->vs.length<=63) (zr:r.length<=bW) (S:aOz G A.in1.in1 D h R) (f:∀h' out,cU [] h h'->R h' out->jM h' (Wd.out ⟨mu,bP k⟩) r out):
  Calm G A h ⟨mu,bP k⟩ (.d (.list r)) (call (.builtin "sorted") [w]):=λtk E Q q=>by
 refine call_function_entry kind_sorted plain_sorted entry_sorted (args_sorted1 _) ?_
 unfold Builtin.«sorted»
 refine aA (m:=checkCount "sorted" 1 1 _) (aH (aA (c tk _ _ λvs h' tk' kp d=>aA (tM ?_ (aB (z vs d) (by decide))))))
 have hg:(h'.push (seqObj "list" vs.toArray 0)).get? h'.objs.size=some (seqObj "list" vs.toArray 0):=bC _ rfl
 refine aA (bX (fO slot_list_sort (show (G.at (h'.push (seqObj "list" vs.toArray 0)) tk').TypeIs _ "list" from ⟨_,hg,rfl⟩) entry_list_sort (S _ _ _ _ vs _ _ (kp.trans (.push _ _)) d hg λout hr=>⟨_,rfl,aH ⟨_,rfl,?_⟩⟩) (args_list_sort _)))
 refine (sortedHeap_at (out:=out) hg).elim λe he=> ?_
 have kp':=(kp.trans (.push h' (seqObj "list" vs.toArray 0))).sorted kp.2 vs out
 exact q _ _ tk' kp' ⟨zr,_,_,rfl,⟨Fi I kp.2,_,_,he,rfl,rfl,λe=>nomatch e⟩,f _ _ kp' hr⟩
set_option tactic.hygienic true in
theorem Yu {r:List aE} (u:A.units+2<cLine) (I:Iv G st k h mu) (b:Fb h ⟨mu,bP k⟩ l w) (z:l.length<=63) (e:Qm l=some r):Calm G A h ⟨mu,bP k⟩ (.d (.list r)) (call (.builtin "sorted") [w]):=by
 have c:=YS (G:=G) (A:=A.in1) b
 unfold Qm at e
 split at e
 ·rename_i is hi
  rw [pK _ _ hi] at c
  have z:is.length<=63:=by rw [pK _ _ hi,aI] at z;exact z
  rw [<-aF e]
  exact Fg I (λtk E Q q=>c tk E Q λvs h' tk' kp d=>q vs h' tk' kp (Ez is vs d)) (λvs d=>by have:=(uK (h:=h) (P:=Ar) d).len;rw [aI] at this;rw [this];exact z)
   (by rw [aI,(iP is).length_eq];exact aB z (by decide)) (Jp z) λh' out Y d=>uK d
 ·split at e
  ·rename_i h4
   refine (bO.mp e).elim λks q=> ?_
   rw [wD _ _ q.1] at c
   have h4:ks.length<=4:=by rw [wD _ _ q.1,aI] at h4;exact h4
   rw [<-q.2]
   exact Fg I c (λvs d=>by have:=d.len;rw [aI] at this;rw [this];exact aB h4 (by decide)) (by rw [aI,(kP ks).length_eq];exact aB h4 (by decide)) (Zs u h4) λh' out kp d=>I.Sr kp d
  ·exact cC e
theorem aEv {l':List aE} {r:Nat} (u:A.units+1<cLine) (I:Iv G st k h mu) (q:Rep G h ⟨mu,bP k⟩ (.ref r) w) (m:(r,O.list l)∈st.objs) (z:l.length<=63) (e:Qm l=some l'):
  Mt G A k h (call (.builtin "list.sort") [w]) (.d .none) (st.put r (.list l')):=λtk E Q c=>(I.obj m q).elim λa y=>y.2.2.elim λws p=>p.elim λn p=>by
 have hg:h.get? a=some (seqObj "list" ws.toList.toArray n):=by rw [iG];exact p.1
 have fin {l':List aE} {out:Array aG} (c:∀w h' tk' mu',Iv G (st.put r (.list l')) (.v w (.none)::k) h' mu'->w= .d .none->Q .none (G.at h' tk')) (zr:l'.length<=bW) (d:jM h (Wd.out ⟨mu,bP k⟩) l' out.toList):Q .none (G.at (sortedHeap h a ws.toList out) tk):=(sortedHeap_at (out:=out) hg).elim λe he=>c (.d .none) _ tk mu (Iv.upd (p:=[]) (p':=[.v (.d .none) .none]) I m (I.live m rfl) y.2.1 (Zu ..) cB cB .nil cB .nil rfl λK=>⟨⟨_,_,he,K.Sr d,zr⟩,λi x=>by rw [aC.mp x];exact rfl⟩) rfl
 rw [y.1]
 refine fO slot_list_sort (show (G.at h tk).TypeIs _ "list" from ⟨_,hg,rfl⟩) entry_list_sort ?_ (args_list_sort _)
 unfold Qm at e
 split at e
 ·rename_i is hi
  have z:is.length<=63:=by rw [pK _ _ hi,aI] at z;exact z
  rw [<-aF e] at c
  exact Jp (h:=h) z h tk a n ws.toList _ _ (.refl h) (Ez is _ (pK _ _ hi▸p.2.1)) hg λout a1=>⟨_,rfl,fin (λw h' tk' mu' I e=>c _ h' tk' mu' (e▸I)) (by rw [aI,(iP is).length_eq];exact aB z (by decide)) (uK a1)⟩
 ·split at e
  ·rename_i h4
   refine (bO.mp e).elim λks q=> ?_
   have h4:ks.length<=4:=by rw [wD _ _ q.1,aI] at h4;exact h4
   rw [<-q.2] at c
   exact Zs (h:=h) u h4 h tk a n ws.toList _ _ (.refl h) (wD _ _ q.1▸p.2.1) hg λout a1=>⟨_,rfl,fin (λw h' tk' mu' I e=>c _ h' tk' mu' (e▸I)) (by rw [aI,(kP ks).length_eq];exact aB h4 (by decide)) a1⟩
  ·exact cC e
end
section
variable {α β:Type} {G:Gr} {A:dT} {k:List It} {st st':St} {h h':Heap} {σ:Wd} {mu:List Addr} {v u:V} {w w1 w2:aG} {E:aG->aK->Prop} {s:aK} {P P':Addr->Prop} {l:List aE}
theorem aLw (b:Fb h σ l w):Calm G A h σ (.d (.int l.length)) (call (.builtin "len") [w]):=λtk E Q q=>b.elim λa r=>r.elim λws r=>by
 have hz:ws.size=l.length:=bH.symm.trans r.2.2.1.len
 have z:(ws.size:Int)<2^63:=jH (cZ.mpr (hz▸r.2.2.2)) (by decide)
 rw [r.1]
 have q:=q (.int ws.size (tk+1)) h (tk+1+1) (.refl h) (hz▸⟨_,rfl⟩)
 exact r.2.1.elim (λs=>len_tuple (s:=G.at h tk) s z q) λs=>call_len_list (s:=G.at h tk) s z q
theorem aGi {a b:Int} (hh:A.handled=none) (r1:Dt h P (.int a) w1) (r2:Dt h P' (.int b) w2):Calm G A h σ (.d (.int (min a b))) (call (.builtin "min") [w1,w2]):=λtk E Q q=>aU r1 λt e=>aU r2 λu e'=>by
 rw [e,e']
 refine iB (min_two_ints (s:=G.at h tk) hh λh' tk' kp z=>q _ h' tk' ⟨λb o Y e=>kp b o e,z⟩ ?_)
 by_cases hb:b<a
 ·rw [if_pos hb,jG (dA hb)];exact ⟨_,rfl⟩
 ·rw [if_neg hb,iW (dD.mp hb)];exact ⟨_,rfl⟩
theorem aGj {a b:Int} (hh:A.handled=none) (r1:Dt h P (.int a) w1) (r2:Dt h P' (.int b) w2):Calm G A h σ (.d (.int (max a b))) (call (.builtin "max") [w1,w2]):=λtk E Q q=>aU r1 λt e=>aU r2 λu e'=>by
 rw [e,e']
 refine iB (max_two_ints (s:=G.at h tk) hh λh' tk' kp z=>q _ h' tk' ⟨λb o Y e=>kp b o e,z⟩ ?_)
 by_cases hb:b>a
 ·rw [if_pos hb,gC (dA hb)];exact ⟨_,rfl⟩
 ·rw [if_neg hb,lQ (dD.mp hb)];exact ⟨_,rfl⟩
theorem Es {a:Addr} {ws:Array aG} {tk:Nat} {Q:aG->aK->Prop} (hs:h.IsTuple a ws\/h.IsList a ws) (hh:A.handled=none)
  (k:∀ (o:Obj) (St:Nat->Heap->Prop),Un G.p G.w A h.objs.size [h.objs.size,a] [h.objs.size] ws.size (λi v=>ws[i]? =some v) St->St 0 (h.push o)->(∀b∈[h.objs.size,a],b<(h.push o).objs.size)->Q (.ref h.objs.size) (G.at (h.push o) tk)):aO (model G.p G.w) A (pyIter (.ref a)) Q E (G.at h tk):=by
 have lt:a<h.objs.size:=hs.elim (λs=>s.elim λo s=>dG s.1) λs=>s.elim λo s=>dG s.1
 have hne:a≠h.objs.size:=fX lt
 have hb (o:Obj):∀b∈[h.objs.size,a],b<(h.push o).objs.size:=λb x=>by
  rw [cO]
  exact (aJ.mp x).elim (λe=>e▸cI _) λx=>aC.mp x▸gZ lt
 exact hs.elim (λhs=>wG (s:=G.at h tk) hs (k _ _ (Walks.tuple hh _ a hne ws) ⟨⟨_,bC _ rfl,rfl,rfl⟩,hs.imp λo p=>⟨bI _ p.1,p.2⟩⟩ (hb _)))
  λhs=>rN (s:=G.at h tk) hs (k _ _ (Pp hh _ a hne ws) ⟨⟨_,bC _ rfl,rfl,rfl⟩,hs.push _⟩ (hb _))
theorem kept_iter {o:Obj} (hk:∀b ob,b∉[h.objs.size]->(h.push o).get? b=some ob->h'.get? b=some ob) (z:h.objs.size<=h'.objs.size):cU [] h h':=⟨λb ob Y e=>hk b ob (λx=>absurd (dG e) (aC.mp x▸qG _)) (bI _ e),z⟩
theorem Qg {is:List Int} {k:Nat} (h:k+1<is.length):(is.take (k+2)).tail=(is.take (k+1)).tail++[is.getD (k+1) 0]:=by
 cases is with
 | nil=>cases h
 | cons x r=>
  have hk:k<r.length:=Bc h
  show r.take (k+1)=r.take k++[r.getD k 0]
  rw [rT,cD,bZ hk];rfl
theorem Ks {b:Int->Int->Bool} {m:Int->Int->Int} (hm:∀x y,m x y=if b y x then y else x) (is:List Int):∀k,k<is.length->is.getD (argBest (λi j=>b (is.getD i 0) (is.getD j 0)) k) 0=(is.take (k+1)).tail.foldl m (is.getD 0 0)
 | 0=>λh=>by
  cases is with
  | nil=>cases h
  | cons a r=>rfl
 | k+1=>λh=>by
  rw [Qg h,List.foldl_append,<-Ks hm is k (Nat.lt_of_succ_lt h)]
  show is.getD (if _ then _ else _) 0=m _ _
  rw [hm]
  split<;>rfl
theorem CH {b:Int->Int->Bool} {m:Int->Int->Int} (hm:∀x y,m x y=if b y x then y else x) {x:Int} {r:List Int}:(x::r).getD (argBest (λi j=>b ((x::r).getD i 0) ((x::r).getD j 0)) r.length) 0=r.foldl m x:=by
 rw [Ks hm (x::r) r.length (cI _),show (x::r).take (r.length+1)=x::r from kO (bM _)];rfl
theorem int_at {is:List Int} {ws:Array aG} (hI:lR ws.toList is) {i:Nat} {v:aG} (e:ws[i]? =some v):∃t,v= .int (is.getD i 0) t:=hI.int_at i v (eS.trans e)
theorem aEu (x y:Int):max x y=if decide (y>x) then y else x:=by
 by_cases h:y>x
 ·rw [decide_eq_true h,if_pos rfl,gC (dA h)]
 ·rw [decide_eq_false h,if_neg cP,lQ (dD.mp h)]
theorem aEs (x y:Int):min x y=if decide (y<x) then y else x:=by
 by_cases h:y<x
 ·rw [decide_eq_true h,if_pos rfl,jG (dA h)]
 ·rw [decide_eq_false h,if_neg cP,iW (dD.mp h)]
theorem SK {is:List Int} (hh:A.handled=none) (b:Fb h σ (is.map .int) w) {m:Int}:(aKq is=some m->Calm G A h σ (.d (.int m)) (call (.builtin "max") [w]))/\(aKp is=some m->Calm G A h σ (.d (.int m)) (call (.builtin "min") [w])):=by
 cases is with
 | nil=>exact ⟨cC,cC⟩
 | cons x r=>
  refine b.elim λa p=>p.elim λws p=> ?_
  have hI:=Ez (x::r) _ p.2.2.1
  have len:ws.size=r.length+1:=bH.symm.trans (p.2.2.1.len.trans (aI ..))
  rw [p.1]
  refine ⟨λe tk E Q q=>iB (call_max_walk (Es p.2.1 hh λo St Wk st0 hfp=>⟨_,_,_,_,_,_,_,rfl,Wk,st0,hfp,by rw [len];exact jN _,CmpOf.ints_gt (λi=>(x::r).getD i 0) (λi v e=>int_at hI e),λv h' tk' hP hk z=> ?_⟩)),
   λe tk E Q q=>iB (call_min_walk (Es p.2.1 hh λo St Wk st0 hfp=>⟨_,_,_,_,_,_,_,rfl,Wk,st0,hfp,by rw [len];exact jN _,CmpOf.ints_lt (λi=>(x::r).getD i 0) (λi v e=>int_at hI e),λv h' tk' hP hk z=> ?_⟩))⟩
  ·refine q v h' tk' (kept_iter hk z) ((int_at hI hP).imp λt e'=>e'.trans ?_)
   rw [len,Hh,<-aF e];exact congrArg (jE · t) (CH aEu)
  ·refine q v h' tk' (kept_iter hk z) ((int_at hI hP).imp λt e'=>e'.trans ?_)
   rw [len,Hh,<-aF e];exact congrArg (jE · t) (CH aEs)
theorem Qx (is:List Int):∀k,k<=is.length->preSum (λi=>is.getD i 0) k=(is.take k).sum
 | 0=>λY=>rfl
 | k+1=>λh=>by rw [preSum,Qx is k (Nat.le_of_succ_le h),rT,List.sum_append,cD,bZ h];exact congrArg (_+ ·) (cA _).symm
theorem aLv {is:List Int} (hh:A.handled=none) (b:Fb h σ (is.map .int) w):Calm G A h σ (.d (.int is.sum)) (call (.builtin "sum") [w]):=λtk E Q q=>b.elim λa p=>p.elim λws p=>by
 have hI:=Ez is _ p.2.2.1
 have len:ws.size=is.length:=bH.symm.trans (p.2.2.1.len.trans (aI ..))
 rw [p.1]
 refine iB (call_sum_walkAnyS (Es p.2.1 hh λo St Wk st0 hfp=>⟨_,_,_,_,_,_,_,λi=>is.getD i 0,rfl,Wk.toS,st0,hfp,λi v e=>int_at hI e,λs' t' hm z=> ?_⟩))
 rw [Qx is _ (bT len),len,Lc]
 rw [Moved.eq_with hm] at z⊢
 exact q _ s'.heap s'.toks (kept_iter (λb ob hb e=>hm.heap b ob hb e) z) ⟨_,rfl⟩
theorem ZB {a b:Int} (I:Iv G st k h mu) (r1:Dt h P (.int a) w1) (r2:Dt h P' (.int b) w2):Calm G A h ⟨mu,bP k⟩ (.GW a b) (call (.type "range") [w1,w2]):=λtk E Q q=>aU r1 λt e=>aU r2 λu e'=>by
 rw [e,e']
 exact call_range_2 (s:=G.at h tk) (q _ _ _ (.push _ _) ⟨_,_,_,_,rfl,Fi I (bM _),Zm _ _ _ _ _ _ _⟩)
theorem SJ {b:Int} (I:Iv G st k h mu) (r1:Dt h P (.int b) w):Calm G A h ⟨mu,bP k⟩ (.GW 0 b) (call (.type "range") [w]):=λtk E Q q=>aU r1 λt e=>by
 rw [e]
 exact call_range_1 (s:=G.at h tk) (q _ _ _ (.push _ _) ⟨_,_,_,_,rfl,Fi I (bM _),Zm _ _ _ _ _ _ _⟩)
theorem Oe (l:Addr) (o:Obj) (items:Array aG) (n:Nat) (hc:o.cls= .type "list") (hd:o.data= .seq items n) (hsz:items.size<=sizeLine):
  Meets (Builtin.«tuple.__new__» ⟨[.type "tuple",.ref l],[]⟩)
   (λY R s=>s.heap.get? l=some o/\∀h':Heap,cU [] s.heap h'->R (.ok (.ret (.ref h'.objs.size))) {s with heap:=h'.push {cls:= .type "tuple",data:= .seq items}}):=
 .of_wp λprog w A R s h=>by
  obtain ⟨hp,g,d,tk,os⟩:=s;obtain ⟨ht,h⟩:=h
  have hsub:=sub_tuple_self
  have hinit:=init_tuple_lookup
  have hmh:=madeHere_tuple
  have hT:qC ⟨hp,g,d,tk,os⟩ (.ref l) "list":=⟨o,ht,hc⟩
  wp_walk using qF ht,rJ hT,Bz (.inl rfl) ht hc hd hsz
  intro h' hk
  show aO _ _ (yW items.toList.toArray>>=λv=>ret v) _ _ _
  unfold yW
  refine aA (iL ?_ (by show items.toList.toArray.size<=sizeLine;simpa using hsz))
  refine aH ⟨_,rfl,?_⟩
  rw [iG]
  exact h h' hk
theorem YZ {r:V} (I:Iv G st k h mu) (q:Rep G h ⟨mu,bP k⟩ r w) (e:(do let l<-Uv r;pure (.d (.tuple l)):M V) st=some (v,st')):Cm G A st h ⟨mu,bP k⟩ (call (.type "tuple") [w]) v st':=by
 have go {l:List aE} (b:LstAt h ⟨mu,bP k⟩ l w):Calm G A h ⟨mu,bP k⟩ (.d (.tuple l)) (call (.type "tuple") [w]):=λtk E Q q=>b.elim λa r=>r.elim λws r=>by
  rw [r.1]
  refine r.2.1.elim λo s=>s.2.2.elim λn d=>callType_new PySem.F.called_tuple (by decide) (PySem.F.typeCall_tuple_1 _) (PySem.F.newCall_tuple_1 _) (λobj=>PySem.F.args_object_init_2 obj _) PySem.F.entry_tuple_new
   (Oe a o ws n s.2.1 d (Qh (bH.symm.trans r.2.2.1.len▸r.2.2.1.len) r.2.2.2)) (s:=G.at h tk) ⟨s.1,λh' hk=>⟨⟨_,bC _ rfl,rfl⟩,q _ _ tk (hk.trans (.push _ _)) ?_⟩⟩
  have t:=(I.grow hk).Os (I.Sr hk r.2.2.1) r.2.2.2
  rw [iG] at t
  exact t
 cases r with
 | d x=>exact mU e λl g e=>vE e ⟨rfl,(BR g).elim (λg=>λtk E Q q'=>(Dt.tup (g▸q)).elim λa r=>r.elim λws r=>by
   have d:Dt h (Wd.out ⟨mu,bP k⟩) (.tuple l) w:=g▸q
   rw [r.1] at d⊢
   exact call_tuple_same (s:=G.at h tk) r.2.1 (q' _ h tk (.refl h) d)) λg=>go (Dt.lst (g▸q))⟩
 | ref r=>exact xI e λo l m g e=>vE e ⟨rfl,(I.obj m q).elim λa y=>go (y.1▸(HD g y.2.2).lst)⟩
 | _=>exact cC e
theorem aGk {n:Nat} {T:String} {b:Bool} (hT:(n=0/\T="tuple")\/(n=1/\T="bool")\/(n=2/\T="int")) {x:aE} (d:Dt h P x w) (e:Rv n x=some b):Calm G A h σ (.d (.bool b)) (call (.builtin "isinstance") [w,.type T]):=Ap λtk E Q q=>by
 cases x with
 | bool c=>
  rw [show w= .bool c from d]
  rcases hT with ⟨rfl,rfl⟩ | ⟨rfl,rfl⟩ | ⟨rfl,rfl⟩<;>rw [<-aF e] at q
  ·exact IsiPair.bool_tuple (s:=G.at h tk) (q _)
  ·exact IsiPair.bool_bool (s:=G.at h tk) (q tk)
  ·exact IsiPair.bool_int (s:=G.at h tk) (q tk)
 | int i=>
  refine aU d λt et=> ?_
  rw [et]
  rcases hT with ⟨rfl,rfl⟩ | ⟨rfl,rfl⟩ | ⟨rfl,rfl⟩<;>rw [<-aF e] at q
  ·exact IsiPair.int_tuple (s:=G.at h tk) (q _)
  ·exact IsiPair.int_bool (s:=G.at h tk) (q _)
  ·exact IsiPair.int_int (s:=G.at h tk) (q tk)
 | tuple l=>
  refine Mr.elim d λa vs Y et s Y=>s.elim λo m Y g c Y Y=> ?_
  rw [et]
  rcases hT with ⟨rfl,rfl⟩ | ⟨rfl,rfl⟩ | ⟨rfl,rfl⟩<;>rw [<-aF e] at q
  ·exact IsiPair.tuple_tuple (s:=G.at h tk) g c (q tk)
  ·exact IsiPair.tuple_bool (s:=G.at h tk) g c (q _)
  ·exact IsiPair.tuple_int (s:=G.at h tk) g c (q _)
 | _=>exact cC e
theorem YK (kvs:List (Int×V)):∀ (xs:List (Int×aG)) (vs:List aG),dZ (TX G h σ) kvs xs->vs.length=xs.length->(∀ (j:Nat) (v:aG),vs[j]? =some v->∃k x,xs[j]? =some (k,x)/\Value.isInt k v=true)->lR vs (kvs.map (·.1)):=
 dR (motive:=λkvs=>∀ (xs:List (Int×aG)) (vs:List aG),dZ (TX G h σ) kvs xs->vs.length=xs.length->(∀ (j:Nat) (v:aG),vs[j]? =some v->∃k x,xs[j]? =some (k,x)/\Value.isInt k v=true)->lR vs (kvs.map (·.1)))
  (λxs vs r e Y=>by
   rw [show xs=[] from r] at e
   rw [jS e];exact .nil)
  (λp kvs i xs vs r e f=>r.elim λq ys eq a b=>by
   rw [eq] at e f
   cases vs with
   | nil=>cases e
   | cons v vs=>
    refine (f 0 v rfl).elim λk y=>y.elim λx y=> ?_
    have ek:q=(k,x):=aF y.1
    refine (Value.isInt_shape y.2).elim λt et=> ?_
    rw [et,show k=p.1 by rw [a.1,ek]]
    exact .cons _ t (i ys vs b (rS e) λj v e=>f (j+1) v e)) kvs
theorem LR {r:Nat} {kvs:List (Int×V)} (hh:A.handled=none) (B:Base G) (I:Iv G st k h mu) (q:Rep G h ⟨mu,bP k⟩ (.ref r) w) (m:(r,O.di kvs)∈st.objs) (z:kvs.length<=63):Calm G A h ⟨mu,bP k⟩ (.d (.list ((hJ (kvs.map (·.1))).map .int))) (call (.builtin "sorted") [w]):=
 λtk E Q c=>(I.obj m q).elim λa y=>y.2.2.elim λxs p=>p.1.dictAt.elim λep hat=>by
  have len:kvs.length=xs.length:=p.2.1.len.symm
  rw [y.1]
  exact Fg I (λtk E Q q=>BW (A:=A.in1) (kdl_dict (knd:=intKind G.p G.w) (kvs:=xs) (ep:=ep) (B.big (I.lo a (aL _ (Bv y.2.1))).1)) hh hat (len▸aB z (by decide)) tk E Q λvs h' tk' kp hI=>q vs h' tk' kp (YK kvs xs vs p.2.1 (oG.symm.trans hI.1) λj v e=>hI.2 j v (sQ.trans e)))
   (λvs d=>by have:=(uK (h:=h) (P:=Ar) d).len;rw [aI,aI] at this;rw [this];exact z) (by rw [aI,(iP _).length_eq,aI];exact aB z (by decide)) (Jp (by rw [aI];exact z)) (λh' out Y d=>uK d) tk E Q c
end
structure FE where
 x:Expr
 y:Expr
 z:Expr
 l:List Expr
 ks:List (Option Expr)
 o1:Option Expr
 o2:Option Expr
 o3:Option Expr
 s:Str
 c:Const
 op:Operator
 uo:UnaryOp
 bo:BoolOp
 cs:List Pv
 kw:List Keyword
 gs:List Comprehension
 sc:gF
 n:Nat
 i:Int
 pos:Pos
noncomputable def dF:FE:=⟨default,default,default,default,default,default,default,default,default,default,default,default,default,default,default,default,default,default,default,default⟩
noncomputable def view (e:Expr):Nat×FE:=match e with
 | .BoolOp a0 a1 a2=>(3,{dF with bo:=a0,l:=a1,pos:=a2})
 | .NamedExpr _ _ _=>(0,dF)
 | .BinOp a0 a1 a2 a3=>(1,{dF with x:=a0,op:=a1,y:=a2,pos:=a3})
 | .UnaryOp a0 a1 a2=>(2,{dF with uo:=a0,x:=a1,pos:=a2})
 | .Lambda _ _ _ _=>(0,dF)
 | .IfExp a0 a1 a2 a3=>(5,{dF with x:=a0,y:=a1,z:=a2,pos:=a3})
 | .Dict a0 a1 a2=>(6,{dF with ks:=a0,l:=a1,pos:=a2})
 | .Set _ _ _=>(0,dF)
 | .ListComp a0 a1 a2 a3=>(7,{dF with x:=a0,gs:=a1,sc:=a2,pos:=a3})
 | .SetComp _ _ _ _=>(0,dF)
 | .DictComp _ _ _ _ _=>(0,dF)
 | .GeneratorExp _ _ _ _=>(0,dF)
 | .Await _ _=>(0,dF)
 | .Yield _ _=>(0,dF)
 | .YieldFrom _ _=>(0,dF)
 | .Compare a0 a1 a2 a3=>(4,{dF with x:=a0,cs:=a1,l:=a2,pos:=a3})
 | .Call a0 a1 a2 a3=>(8,{dF with x:=a0,l:=a1,kw:=a2,pos:=a3})
 | .FormattedValue a0 a1 a2 a3=>(9,{dF with x:=a0,i:=a1,o1:=a2,pos:=a3})
 | .JoinedStr a0 a1=>(10,{dF with l:=a0,pos:=a1})
 | .Constant a0 a1 a2=>(11,{dF with c:=a0,n:=a1,pos:=a2})
 | .Attribute a0 a1 a2=>(12,{dF with x:=a0,s:=a1,pos:=a2})
 | .Subscript a0 a1 a2=>(13,{dF with x:=a0,y:=a1,pos:=a2})
 | .Starred _ _=>(0,dF)
 | .Name a0 a1=>(14,{dF with s:=a0,pos:=a1})
 | .List a0 a1=>(15,{dF with l:=a0,pos:=a1})
 | .Tuple a0 a1 a2=>(16,{dF with l:=a0,n:=a1,pos:=a2})
 | .Slice a0 a1 a2 a3=>(17,{dF with o1:=a0,o2:=a1,o3:=a2,pos:=a3})
noncomputable def parts (e:Expr):FE:=(view e).2
noncomputable def tR (n:Nat) (e:Expr) (f:FE->Bool):Bool:=(view e).1==n&&f (parts e)
noncomputable def aCm (F:FE):List Expr:=[.BinOp F.x F.op F.y F.pos,.UnaryOp F.uo F.x F.pos,.BoolOp F.bo F.l F.pos,.Compare F.x F.cs F.l F.pos,.IfExp F.x F.y F.z F.pos,.Dict F.ks F.l F.pos,.ListComp F.x F.gs F.sc F.pos,.Call F.x F.l F.kw F.pos,.FormattedValue F.x F.i F.o1 F.pos,.JoinedStr F.l F.pos,.Constant F.c F.n F.pos,.Attribute F.x F.s F.pos,.Subscript F.x F.y F.pos,.Name F.s F.pos,.List F.l F.pos,.Tuple F.l F.n F.pos,.Slice F.o1 F.o2 F.o3 F.pos]
theorem MT (e:Expr):(view e).1=0\/(aCm (parts e))[(view e).1 - 1]? =some e:=by
 cases e<;>first | exact .inr rfl | exact .inl rfl
theorem iJ {P:Expr->Prop} {n:Nat} {e:Expr} {f:FE->Bool} (h:tR (n+1) e f=true) (k:∀F:FE,f F=true->P ((aCm F).getD n default)):P e:=
 have h:=aM.mp h
 have q:=beq_iff_eq.mp h.1
 (MT e).elim (λe=>nomatch e.symm.trans q) λt=>(show (aCm (parts e)).getD n default=e by rw [q] at t;rw [cD,show (aCm (parts e))[n]? =some e from t];rfl)▸k _ h.2
structure FS where
 t:Expr
 e:Expr
 l:List Expr
 a:List Stmt
 b:List Stmt
 o:Option Expr
 pos:Pos
noncomputable def dS:FS:=⟨default,default,default,default,default,default,default⟩
noncomputable def GE (s:Stmt):Nat×FS:=match s with
 | .FunctionDef _ _ _ _ _ _ _ _ _ _=>(0,dS)
 | .AsyncFunctionDef _ _ _ _ _ _ _ _ _ _=>(0,dS)
 | .ClassDef _ _ _ _ _ _ _ _ _ _ _=>(0,dS)
 | .Return a0 a1=>(6,{dS with o:=a0,pos:=a1})
 | .Delete _ _=>(0,dS)
 | .Assign a0 a1 a2=>(2,{dS with l:=a0,e:=a1,pos:=a2})
 | .TypeAlias _ _ _ _ _ _ _=>(0,dS)
 | .AugAssign _ _ _ _=>(0,dS)
 | .AnnAssign _ _ _ _ _=>(0,dS)
 | .For a0 a1 a2 a3 a4=>(4,{dS with t:=a0,e:=a1,a:=a2,b:=a3,pos:=a4})
 | .AsyncFor _ _ _ _ _=>(0,dS)
 | .While a0 a1 a2 a3=>(5,{dS with t:=a0,a:=a1,b:=a2,pos:=a3})
 | .If a0 a1 a2 a3=>(3,{dS with t:=a0,a:=a1,b:=a2,pos:=a3})
 | .With _ _ _=>(0,dS)
 | .AsyncWith _ _ _=>(0,dS)
 | .Match _ _ _=>(0,dS)
 | .Raise _ _ _=>(0,dS)
 | .Try _ _ _ _ _=>(0,dS)
 | .TryStar _ _ _ _ _=>(0,dS)
 | .Assert _ _ _=>(0,dS)
 | .Import _ _=>(0,dS)
 | .ImportFrom _ _ _ _=>(0,dS)
 | .Global _ _=>(0,dS)
 | .Nonlocal _ _=>(0,dS)
 | .Expr a0 a1=>(1,{dS with e:=a0,pos:=a1})
 | .Pass _=>(0,dS)
 | .Break _=>(0,dS)
 | .Continue _=>(0,dS)
noncomputable def Xa (s:Stmt):FS:=(GE s).2
noncomputable def KP (n:Nat) (s:Stmt) (f:FS->Bool):Bool:=(GE s).1==n&&f (Xa s)
noncomputable def NC (F:FS):List Stmt:=[.Expr F.e F.pos,.Assign F.l F.e F.pos,.If F.t F.a F.b F.pos,.For F.t F.e F.a F.b F.pos,.While F.t F.a F.b F.pos,.Return F.o F.pos]
theorem JI (s:Stmt):(GE s).1=0\/(NC (Xa s))[(GE s).1 - 1]? =some s:=by
 cases s<;>first | exact .inr rfl | exact .inl rfl
theorem QG {P:Stmt->Prop} {n:Nat} {s:Stmt} {f:FS->Bool} (h:KP (n+1) s f=true) (k:∀F:FS,f F=true->P ((NC F).getD n default)):P s:=
 have h:=aM.mp h
 have q:=beq_iff_eq.mp h.1
 (JI s).elim (λe=>nomatch e.symm.trans q) λt=>(show (NC (Xa s)).getD n default=s by rw [q] at t;rw [cD,show (NC (Xa s))[n]? =some s from t];rfl)▸k _ h.2
noncomputable def knd (k:Option rP):Nat:=match k with
 | none=>0
 | some k=>match k with
  | .local=>1
  | .cell=>1
  | .free=>1
  | .globalImplicit=>2
  | .globalExplicit=>0
noncomputable def kn (sc:gF) (x:Str):Nat:=knd (sc.names.lookup x)
noncomputable def tD (s:Str):Bool:= ![aZ "__debug__",aZ "__classdict__",aZ ".0"].contains s
noncomputable def isNm (sc:gF) (k:Nat) (x:Str) (e:Expr):Bool:=tR 14 e λF=>decide (F.s=x)&&kn sc x==k&&tD x
noncomputable def Sb (x:Str) (e:Expr):Bool:=tR 11 e λF=>decide (F.c= .str x)
noncomputable def xH (sc:gF) (n:String) (e:Expr):Bool:=isNm sc 2 (aZ n) e
noncomputable def FG (b:Bt):String:=match b with
 | .len=>"len" | .abs=>"abs" | .int=>"int" | .min=>"min" | .max=>"max" | .DZ=>"min" | .Oi=>"max" | .sum=>"sum" | .sorted=>"sorted" | .oM=>"sorted"
 | .tuple=>"tuple" | .dict=>"dict" | .range=>"range" | .Bl=>"range" | .sG=>"isinstance" | .is_bool=>"isinstance" | .Eu=>"isinstance"
noncomputable def isPlain (e:Expr):Bool:=(view e).1 != 0&&(view e).1 != 17
noncomputable def Jx (e:Expr):Bool:= !tR 8 e λF=>tR 14 F.x λF'=>decide (F'.s=aZ "super")
noncomputable def UV (x:Str):Bool:=nF x&&decide (x.cps.size<=bW)
noncomputable def Af {α:Type} (o:Option α) (f:α->Bool):Bool:=match o with
 | some a=>f a
 | none=>false
theorem Co {α:Type} {o:Option α} {f:α->Bool} {P:Prop} (h:Af o f=true) (k:∀a,o=some a->f a=true->P):P:=by
 cases o with
 | some a=>exact k a rfl h
 | none=>exact lH h
noncomputable def Mo:List Nm->List (Option Expr)->Bool
 | [],l=>l.isEmpty
 | x::xs,l=>match l with
  | []=>false
  | o::r=>Af o (Sb x.str)&&Mo xs r
mutual
noncomputable def Zk (sc:gF):Tg->Expr->Bool
 | .n x,e=>isNm sc 1 x.str e
 | .t ts,e=>tR 16 e λF=>BX sc ts F.l
 | .a _ _,_=>false
 | .s _ _,_=>false
noncomputable def BX (sc:gF):List Tg->List Expr->Bool
 | [],l=>l.isEmpty
 | t::ts,l=>match l with
  | []=>false
  | e::es=>Zk sc t e&&BX sc ts es
end
mutual
noncomputable def pB:Tg->List Nm
 | .n x=>[x]
 | .t ts=>Hr ts
 | .a _ _=>[]
 | .s _ _=>[]
noncomputable def Hr:List Tg->List Nm
 | []=>[]
 | t::ts=>pB t++Hr ts
end
noncomputable def aLf (s:Str):Bool:=decide (Nm.str (fC (val s.cps.toList))=s)
noncomputable def Yp (sc sc':gF) (t:Tg):Bool:=
 decide (sc'.kind= .function)&&decide (pB t).Nodup&&(pB t).all (λx=>decide (sc'.names.lookup x.str=some .local)&&tD x.str)&&sc'.names.all λp=>match p.2 with
  | .local=>decide (sc'.names.lookup p.1=some .local)&&(!tD p.1||(pB t).any λx=>decide (x.str=p.1))
  | .free=>decide (sc.names.lookup p.1=some .cell)&&aLf p.1
  | .globalImplicit=>true
  | .cell=>false
  | .globalExplicit=>false
noncomputable def Xx (t:Tg):Bool:=match t with
 | .t _=>true
 | _=>false
noncomputable def aLt (sc:gF) (b:Bt) (f:Expr) (l:List Expr) (rec:List Expr->Bool):Bool:=xH sc (FG b) f&&match b with
 | .sG=>Af (two l) λp=>xH sc "tuple" p.2&&rec [p.1]
 | .is_bool=>Af (two l) λp=>xH sc "bool" p.2&&rec [p.1]
 | .Eu=>Af (two l) λp=>xH sc "int" p.2&&rec [p.1]
 | .oM=>Af (one l) λe=>tR 8 e λF=>F.kw.isEmpty&&xH sc "set" F.x&&rec F.l
 | _=>rec l
mutual
noncomputable def lM (sc:gF):Ex->Expr->Bool
 | .v x,e=>isNm sc 1 x.str e
 | .Nq x,e=>isNm sc 2 x.str e
 | .none,e=>tR 11 e λF=>decide (F.c= .none)
 | .bool b,e=>tR 11 e λF=>decide (F.c= .bool b)
 | .int i,e=>tR 11 e λF=>decide (F.c= .int i)
 | .str n,e=>Sb n.str e&&UV n.str
 | .tup es,e=>tR 16 e λF=>Fy sc es F.l&&decide (es.length<=1000)
 | .lst es,e=>tR 15 e λF=>Fy sc es F.l&&decide (es.length<=1000)
 | .zE es,e=>tR 15 e λF=>Fy sc es F.l&&decide (es.length<=1000)
 | .Xg,e=>tR 6 e λF=>F.ks.isEmpty&&F.l.isEmpty
 | .aAv,e=>tR 6 e λF=>F.ks.isEmpty&&F.l.isEmpty
 | .Wq ks es,e=>tR 6 e λF=>Mo ks F.ks&&Fy sc es F.l&&decide (ks.Nodup)&&decide (ks.length<=10)&&ks.length==es.length&& !ks.isEmpty
 | .bin o a b,e=>tR 1 e λF=>decide (F.op=WA o)&&lM sc a F.x&&lM sc b F.y
 | .neg a,e=>tR 2 e λF=>decide (F.uo= .USub)&&lM sc a F.x
 | .not a,e=>tR 2 e λF=>decide (F.uo= .Not)&&lM sc a F.x
 | .and es,e=>tR 3 e λF=>decide (F.bo= .And)&&Fy sc es F.l
 | .or es,e=>tR 3 e λF=>decide (F.bo= .Or)&&Fy sc es F.l
 | .cmp a r,e=>tR 4 e λF=>lM sc a F.x&&YW sc r F.cs F.l
 | .gR c a b,e=>tR 5 e λF=>lM sc c F.x&&lM sc a F.y&&lM sc b F.z
 | .sub a i,e=>tR 13 e λF=>isPlain F.y&&lM sc a F.x&&lM sc i F.y
 | .Wo a lo hi,e=>tR 13 e λF=>lM sc a F.x&&tR 17 F.y λS=>S.o3.isNone&&aOu sc lo S.o1&&aOu sc hi S.o2
 | .xN a x,e=>tR 12 e λF=>decide (F.s=x.str)&&Jx F.x&&lM sc a F.x
 | .call f es,e=>tR 8 e λF=>F.kw.isEmpty&&isNm sc 2 f.str F.x&&Fy sc es F.l
 | .blt b es,e=>tR 8 e λF=>F.kw.isEmpty&&aLt sc b F.x F.l λl=>Fy sc es l
 | .met o m es,e=>tR 8 e λF=>F.kw.isEmpty&&Fy sc es F.l&&decide (es.length<=20)&&tR 12 F.x λF'=>decide (F'.s=m.str)&&Jx F'.x&&F'.pos.endLine==F.pos.line&&lM sc o F'.x
 | .comp x t it ifs,e=>tR 7 e λF=>Af (one F.gs) λg=>decide (g.is_async=0)&&Yp sc F.sc t&&isPlain g.iter&&Zk F.sc t g.target&&((vM it).isNone||Xx t)&&lM sc it g.iter&&lM F.sc x F.x&&Fy F.sc ifs g.ifs
 | .BK a,e=>tR 10 e λF=>Af (two F.l) λp=>Sb Nm.Lq.str p.1&&tR 9 p.2 λV=>decide (V.i= -1)&&V.o1.isNone&&lM sc a V.x
 | .zip a b,e=>tR 8 e λF=>F.kw.isEmpty&&xH sc "zip" F.x&&Af (two F.l) λp=>isPlain p.1&&isPlain p.2&&lM sc a p.1&&lM sc b p.2
 | .Lz,e=>tR 8 e λF=>F.kw.isEmpty&&F.l.isEmpty&&xH sc "Functions" F.x
 | .AR,e=>tR 8 e λF=>F.kw.isEmpty&&F.l.isEmpty&&xH sc "Flat" F.x
 | .bad,_=>true
noncomputable def Fy (sc:gF):List Ex->List Expr->Bool
 | [],l=>l.isEmpty
 | x::xs,l=>match l with
  | []=>false
  | e::es=>isPlain e&&lM sc x e&&Fy sc xs es
noncomputable def aOu (sc:gF):Option Ex->Option Expr->Bool
 | none,o=>o.isNone
 | some x,o=>Af o λe=>lM sc x e
noncomputable def YW (sc:gF):List (CZ×Ex)->List Pv->List Expr->Bool
 | [],os,es=>os.isEmpty&&es.isEmpty
 | (o,x)::r,os,es=>match os with
  | []=>false
  | o'::ops=>match es with
   | []=>false
   | e::es=>decide (o'=Vy o)&&isPlain e&&lM sc x e&&YW sc r ops es
end
noncomputable def MG (sc:gF) (t:Tg) (e:Expr):Bool:=match t with
 | .n x=>Zk sc (.n x) e
 | .t ts=>Zk sc (.t ts) e
 | .a o x=>tR 12 e λF=>decide (F.s=x.str)&&lM sc o F.x
 | .s o i=>tR 13 e λF=>isPlain F.y&&lM sc o F.x&&lM sc i F.y
noncomputable def Yq (sc:gF):List Tg->List Expr->Bool
 | [],l=>l.isEmpty
 | t::ts,l=>match l with
  | []=>false
  | e::es=>MG sc t e&&Yq sc ts es
noncomputable def Wi (t:Tg):Option Nm:=match t with
 | .n x=>some x
 | _=>none
noncomputable def tT (a b:Expr):Bool:=(view a).1==16&&(view b).1==16
mutual
noncomputable def aQb (sc:gF):Sx->Stmt->Bool
 | .ex x,s=>KP 1 s λF=>(view F.e).1==8&&lM sc x F.e
 | .asg t x,s=>KP 2 s λF=>Af (one F.l) λtg=> !tT tg F.e&&isPlain F.e&&MG sc t tg&&lM sc x F.e
 | .qX ts xs,s=>KP 2 s λF=>Af (one F.l) λtg=>tR 16 tg λT=>tR 16 F.e λV=>Yq sc ts T.l&&Fy sc xs V.l&&ts.length==xs.length&& !(V.l.all (constantsAlone 8))&&decide ((ts.filterMap Wi).Nodup)&&decide (xs.length<=1000)
 | .gR c a b,s=>KP 3 s λF=>lM sc c F.t&&EY sc a F.a&&EY sc b F.b
 | .for t it body,s=>KP 4 s λF=>F.b.isEmpty&&((vM it).isNone||Xx t)&&isPlain F.e&&Zk sc t F.t&&lM sc it F.e&&EY sc body F.a
 | .aAg c body,s=>KP 5 s λF=>F.b.isEmpty&&lM sc c F.t&&EY sc body F.a
 | .ret o,s=>KP 6 s λF=>match o with
  | none=>F.o.isNone
  | some x=>Af F.o λe=>lM sc x e
 | .bad,_=>true
noncomputable def EY (sc:gF):List Sx->List Stmt->Bool
 | [],l=>l.isEmpty
 | x::xs,l=>match l with
  | []=>false
  | s::r=>aQb sc x s&&EY sc xs r
end
theorem GJ {M:Tg->Prop} {N:List Tg->Prop} (n:∀x,M (.n x)) (t:∀l,N l->M (.t l)) (a:∀o x,M (.a o x)) (s:∀o i,M (.s o i)) (nil:N []) (cons:∀t l,M t->N l->N (t::l)):∀t,M t:=
 Tg.rec (motive_1:=λY=>True) (motive_2:=M) (motive_3:=λY=>True) (motive_4:=λY=>True) (motive_5:=λY=>True) (motive_6:=N) (motive_7:=λY=>True)
  (λY=>trivial) (λY=>trivial) trivial (λY=>trivial) (λY=>trivial) (λY=>trivial) (λY Y=>trivial) (λY Y=>trivial) (λY Y=>trivial) trivial (λY Y Y=>trivial) (λY Y Y Y Y=>trivial) (λY Y=>trivial) (λY Y=>trivial) (λY Y=>trivial) (λY Y=>trivial) (λY Y Y Y=>trivial) (λY Y Y Y Y Y=>trivial) (λY Y Y Y=>trivial) (λY Y Y Y Y Y=>trivial) (λY Y Y=>trivial) (λY Y Y=>trivial) (λY Y Y=>trivial) (λY Y Y Y Y=>trivial) (λY Y Y Y Y Y Y Y=>trivial) (λY Y=>trivial) (λY Y Y Y=>trivial) trivial trivial trivial trivial
  n (λl=>t l) (λo x Y=>a o x) (λo i Y Y=>s o i) trivial (λY Y Y Y=>trivial) trivial (λY Y Y Y=>trivial) trivial (λY Y=>trivial) nil (λt l=>cons t l) (λY Y Y=>trivial)
section
variable {α β γ:Type} {G:Gr} {A:dT} {k k':List It} {st st':St} {h h':Heap} {σ:Wd} {mu:List Addr} {v u:V} {w w1 w2:aG} {E:aG->aK->Prop} {s:aK} {ρ:List (Nm×V)} {env:Env} {sc:gF} {x:Nm}
structure MK (env:Env) (sc:gF):Prop where
 kind:env.scope.kind= .function
 glob:env.globals=mainGlobals
 blt:env.builtins=builtinsNs
 sc:∀x,knd (env.kindOf x)=kn sc x/\(sc.names.lookup x≠some .local->env.kindOf x≠some .local)
 nf:∀x,env.kindOf x≠some .free
noncomputable def JD (G:Gr) (env:Env) (ρ:List (Nm×V)) (k:List It):Prop:=∀h σ,(∀i∈k,i.ok G h σ)->MJ G h σ env.locals (λx=>env.kindOf x.str=some .local/\tD x.str=true) ρ/\To G h σ env ρ
theorem JD.mono (V:JD G env ρ k) (s:∀i∈k,i∈k'):JD G env ρ k':=λh σ f=>V h σ λi m=>f i (s i m)
theorem JD.cons (V:JD G env ρ k) {i:It}:JD G env ρ (i::k):=V.mono λY m=> .tail _ m
theorem JD.fr (m:It.fr env ρ∈k):JD G env ρ k:=λh σ f=>⟨(f _ m).1.imp λm p=>⟨p.1,λx v a b c=>p.2 x v a b c.1⟩,(f _ m).2.1⟩
theorem Xt {k:Option rP} (h:knd k=1) (nf:k≠some .free):k=some .local\/k=some .cell:=by
 rcases k with _ | (_ | _ | _ | _ | _)<;>first | exact .inl rfl | exact .inr rfl | exact absurd rfl nf | exact nomatch h
theorem XA {k:Option rP} (h:knd k=2):k=some .globalImplicit:=by
 rcases k with _ | (_ | _ | _ | _ | _)<;>first | rfl | exact nomatch h
theorem Cv {P:Expr->Prop} {n:Nat} {x:Str} {e:Expr} (h:isNm sc n x e=true) (k:∀pos,kn sc x=n->tD x=true->P (.Name x pos)):P e:=
 iJ h λF h=>by
  have h:=aM.mp h
  have h':=aM.mp h.1
  show P (.Name F.s F.pos)
  rw [of_decide_eq_true h'.1]
  exact k F.pos (beq_iff_eq.mp h'.2) h.2
theorem RL {x:Str} (h:tD x=true):(x==("__debug__":Str))=false:=beq_false_of_ne λe=>by
 rw [e] at h
 exact lH (show false=true from (show tD ("__debug__":Str)=false by decide+kernel)▸h)
theorem VK (S:MK env sc) (V:JD G env ρ k) {pos:Pos} (hk:kn sc x.str=1) (hd:tD x.str=true):RR G A k (do let v<-fI (ρ.lookup x);dK (nB v);pure v) (eval (.Name x.str pos) env) (λv w=> .v v w::k):=RR.calm λst v st' h mu e I=>
 mU e λv el e=>fB e λg e=>vE e ⟨rfl,rF λtk E Q q=>by
  have v:=V h _ I.uJ
  refine wpAny_Name ?_ (RL hd)
  refine (Xt ((S.sc x.str).1.trans hk) (S.nf _)).elim (λc=>v.1.elim λm p=>(p.2 x _ el g ⟨c,hd⟩).elim λw r=>Dh (s:=G.at h tk) S.kind c p.1 r.1 (q w tk r.2)) λc=>(v.2 x c).elim λa p=>p.elim λc' p=>p.elim λo p=>(p.2.2.2 _ el g).elim λw r=> ?_
  have hd:=p.2.2.1
  rw [r.1] at hd
  exact wpAny_loadName_cell (s:=G.at h tk) S.kind c p.1 ⟨o,p.2.1,hd⟩ (q w tk r.2)⟩
theorem Ak {s:Str} {pos:Pos} {tk:Nat} {Q:aG->aK->Prop} (B:Base G) (S:MK env sc) (I:Iv G st k h mu) (hk:kn sc s=2) (hd:tD s=true) (hv:G.mg s=some w\/(G.mg s=none/\G.mb s=some w)) (q:Q w (G.at h tk)):aO (model G.p G.w) A (eval (.Name s pos) env) Q E (G.at h tk):=by
 have g:=B.g.keeps I.base
 have b:=B.b.keeps I.base
 rw [<-S.glob] at g
 rw [<-S.blt] at b
 refine Name_function_global S.kind (XA ((S.sc s).1.trans hk)) ?_ (RL hd)
 exact hv.elim (λhv=>loadGlobal_global (s:=G.at h tk) g hv q) λhv=>loadGlobal_builtin (s:=G.at h tk) g hv.1 b hv.2 q
theorem aDk {pos:Pos} (B:Base G) (S:MK env sc) (hk:kn sc x.str=2) (hd:tD x.str=true):RR G A k (fI (Nq x)) (eval (.Name x.str pos) env) (λv w=> .v v w::k):=RR.calm λst v st' h mu e I=>
 ⟨(Ae e).2,rF λtk E Q q=>(B.aLj x v (Ae e).1).elim λw r=>Ak B S I hk hd (.inl r.1) (q w tk (Rep.mono ⟨λa o Y g=>⟨OU I g,I.base a o g⟩,λr a e=>cC (Ja.symm.trans e)⟩ _ _ r.2))⟩
noncomputable def Hs (G:Gr) (k:List It) (v:V) (w:aG):Prop:=∀h σ,(∀i∈k,i.ok G h σ)->Rep G h σ v w
theorem Hs.of (m:It.v v w∈k):Hs G k v w:=λY Y f=>f _ m
noncomputable def aHz (G:Gr) (env:Env) (I:List (Nm×V)->It) (y:Nm):Prop:=∀A k ρ v w,Hs G k v w->RR G A (I ρ::k) (pure (mT y v ρ)) (bindName env y.str w) (λρ' Y=>I ρ'::k)
theorem Jt {y:Nm} (e:(mT x v ρ).lookup y=some u):(y=x/\u=v)\/(y≠x/\ρ.lookup y=some u):=by
 rw [Vh] at e
 by_cases q:y=x
 ·by_cases z:(ρ.lookup x).isSome=true
  ·rw [if_pos ⟨q,z⟩] at e;exact .inl ⟨q,(aF e).symm⟩
  ·rw [if_neg λy=>z y.2,q] at e;exact absurd (congrArg Option.isSome e) λy=>z (y.trans rfl)
 ·rw [if_neg λy=>q y.1] at e;exact .inr ⟨q,e⟩
theorem OX {C:Addr} {L:Nm->Prop} {m:Str->Option aG} (K:tL h σ h' σ') (p:∀y u,ρ.lookup y=some u->nB u=true->L y->∃w,m y.str=some w/\Rep G h σ u w) (ns:h'.Ns C (λz=>if z=x.str then some w else m z)) (q:Rep G h' σ' v w):MJ G h' σ' C L (mT x v ρ):=by
 refine ⟨_,ns,λy u e n l=>(Jt e).elim (λz=>⟨w,if_pos (congrArg Nm.str z.1),z.2▸q⟩) λz=>(p y u z.2 n l).imp λw' r=>⟨(if_neg λe=>z.1 (Re _ _ e)).trans r.1,Rep.mono K _ _ r.2⟩⟩
theorem KI {α β:Type} {l:List (α×β)} {p q:α×β} (nd:(l.map (·.2)).Nodup) (a:p∈l) (b:q∈l) (e:p.2=q.2):p=q:=by
 induction l with
 | nil=>cases a
 | cons z l i=>
  have nd:=bV.mp nd
  exact (aJ.mp a).elim (λa=>(aJ.mp b).elim (λb=>a.trans b.symm) λb=>absurd (aT.mpr ⟨q,b,e.symm.trans (congrArg fU a)⟩) nd.1) λa=>(aJ.mp b).elim (λb=>absurd (aT.mpr ⟨p,a,e.trans (congrArg fU b)⟩) nd.1) λb=>i nd.2 a b
theorem aCu {C:Addr} (S:env.scope.kind= .function) (hC:env.locals=C) (hk:env.kindOf x.str=some .local):aHz G env (.ns C) x:=λA k ρ v w mv=>RR.of λst a st' h tk mu e I E Q q=>by
 have r:MJ G h ⟨mu,bP (.ns C ρ::k)⟩ C (λY=>True) ρ:=I.uJ _ (.head _)
 refine pureE (P:=λa st'=>(∀b h' tk' mu',Iv G st' (.ns C a::k) h' mu'->Q b (G.at h' tk'))->_) e (λq=> ?_) q
 unfold bindName
 refine r.elim λm p=>aA (bX (yA (aA (Cw (s:=G.at h tk) hk (hC▸p.1) (λh' ns hs=>yA (q () h' _ mu ?_)) (by rw [S];rfl)))))
 rw [hC] at ns hs
 exact Iv.same (p:=[.ns C ρ]) (p':=[.ns C (mT x v ρ)]) I (.same hs) (λa m=> .head _|>λz=>(aC.mp m)▸z) (λa m=> .inl m) (λa m=>bA (I.lo a (aQ _ (aL _ (aC.mp m▸ .head _)))).2 (bT hs.1.symm)) (bV.mpr ⟨bN,.nil⟩) cB .nil cB
  λK i m=>by rw [aC.mp m];exact OX K p.2 ns (Rep.mono K _ _ (mv _ _ λi m=>I.uJ i (.tail _ m)))
theorem HB {i:It} {a:Addr} (m:a∈i.own):a∈bP (i::k):=aL _ m
theorem Wl (S:MK env sc) (hk:kn sc x.str=1):aHz G env (.fr env) x:=λA k ρ v w mv=>RR.of λst a st' h tk mu e I E Q q=>by
 have r:It.ok G h ⟨mu,bP (.fr env ρ::k)⟩ (.fr env ρ):=I.uJ _ (.head _)
 have nd:(frameOf env).Nodup:=(bB.mp (bB.mp I.nd).2.1).1
 have ndl:=bV.mp nd
 refine pureE (P:=λa st'=>(∀b h' tk' mu',Iv G st' (.fr env a::k) h' mu'->Q b (G.at h' tk'))->_) e (λq=> ?_) q
 have fin {h':Heap} {tk':Nat} {b:Addr} (hb:b∈frameOf env) (hs:gJ b h h') (f:tL h ⟨mu,bP (.fr env ρ::k)⟩ h' ⟨mu,bP (.fr env (mT x v ρ)::k)⟩->It.ok G h' ⟨mu,bP (.fr env (mT x v ρ)::k)⟩ (.fr env (mT x v ρ))):Q () (G.at h' tk'):=
  q () h' tk' mu (Iv.same (p:=[.fr env ρ]) (p':=[.fr env (mT x v ρ)]) I (.same hs) (λa m=>HB (aC.mp m▸hb)) (λa m=> .inl m) (λa m=>bA (I.lo a (aQ _ (aL _ (by rw [show bP [It.fr env (mT x v ρ)]=frameOf env from cN _] at m;exact m)))).2 (bT hs.1.symm))
   (by rw [show bP [It.fr env (mT x v ρ)]=frameOf env from cN _];exact nd) cB .nil cB λK i m=>by rw [aC.mp m];exact f K)
 have qv {h':Heap} {σ':Wd} (K:tL h ⟨mu,bP (.fr env ρ::k)⟩ h' σ'):Rep G h' σ' v w:=Rep.mono K _ _ (mv _ _ λi m=>I.uJ i (.tail _ m))
 unfold bindName
 refine aA (bX (yA ?_))
 refine (Xt ((S.sc x.str).1.trans hk) (S.nf _)).elim (λc=>r.1.elim λm p=>aA (Cw (s:=G.at h tk) c p.1 (λh' ns hs=>yA (fin (.head _) hs λK=> ?_)) (by rw [S.kind];rfl))) λc=>(r.2.1 x c).elim λa p=>p.elim λc' p=>p.elim λo p=> ?_
 ·refine ⟨OX K p.2 ns (qv K),λy cy=>(r.2.1 y cy).elim λa t=>t.elim λc' t=>t.elim λo t=>⟨a,c',o,t.1,(hs.2 a λe=>ndl.1 (e▸aT.mpr ⟨_,eY t.1,rfl⟩)).trans t.2.1,t.2.2.1,λu f n=> ?_⟩,λt mt=>(r.2.2 t mt).imp λo t'=>t'.imp λc' t'=>⟨(hs.2 t.2 λe=>ndl.1 (e▸aT.mpr ⟨t,mt,rfl⟩)).trans t'.1,t'.2⟩⟩
  exact (Jt f).elim (λz=>by rw [z.1,c] at cy;exact nomatch cy) λz=>(t.2.2.2 u z.2 n).imp λw' t=>⟨t.1,Rep.mono K _ _ t.2⟩
 ·have am:(x.str,a)∈env.cells:=eY p.1
  have al:a≠env.locals:=λe=>ndl.1 (e▸aT.mpr ⟨_,am,rfl⟩)
  refine aA (wpAny_storeName_cell (s:=G.at h tk) S.kind c p.1 ⟨o,p.2.1,p.2.2.1⟩ λh' hc hs=>yA (fin (.tail _ (aT.mpr ⟨_,am,rfl⟩)) hs λK=>⟨r.1.elim λm t=> ?_,λy cy=> ?_,λt mt=> ?_⟩))
  ·refine ⟨m,t.1.at' λo g=>(hs.2 _ al.symm).trans g,λy u f n l=>(Jt f).elim (λz=>by rw [z.1,c] at l;exact nomatch l) λz=>(t.2 y u z.2 n l).imp λw' t=>⟨t.1,Rep.mono K _ _ t.2⟩⟩
  ·by_cases e:y=x
   ·rw [e]
    exact hc.elim λo2 t=>⟨a,some w,o2,p.1,t.1,t.2,λu f n=>(Jt f).elim (λz=>⟨w,rfl,z.2▸qv K⟩) λz=>absurd rfl z.1⟩
   ·refine (r.2.1 y cy).elim λb t=>t.elim λc' t=>t.elim λo' t=>⟨b,c',o',t.1,(hs.2 b λeb=>e ?_).trans t.2.1,t.2.2.1,λu f n=>(Jt f).elim (λz=>absurd z.1 e) λz=>(t.2.2.2 u z.2 n).imp λw' t=>⟨t.1,Rep.mono K _ _ t.2⟩⟩
    exact Re _ _ (congrArg bY (KI ndl.2 (eY t.1) am eb))
  ·by_cases e:t.2=a
   ·exact hc.elim λo2 t'=>⟨o2,some w,e▸t'.1,t'.2⟩
   ·exact (r.2.2 t mt).imp λo t'=>t'.imp λc' t'=>⟨(hs.2 _ e).trans t'.1,t'.2⟩
end
section
variable {α β γ:Type} {G:Gr} {A:dT} {k k':List It} {st st':St} {s:aK} {h h':Heap} {mu:List Addr} {v u:V} {w w1 w2:aG} {E:aG->aK->Prop} {ρ:List (Nm×V)} {env:Env} {sc:gF} {X:Dg} {n:Nat} {e:Expr} {pos:Pos}
noncomputable def Vl (k:List It) (v:V) (w:aG):List It:= .v v w::k
noncomputable def Tr (k:List It) (b c:Bool):List It:=if b=c then k else [.no]
theorem Tr.elim {b c:Bool} {P:Prop} (I:Inv G st (Tr k b c) s) (f:b=c->Inv G st k s->P):P:=by
 unfold Tr at I
 split at I
 ·rename_i e;exact f e I
 ·exact aU I λh I=>aU I λtk I=>aU I λmu I=>(I.2.uJ _ (.head _)).elim
theorem Tr.mk {b c:Bool} (e:b=c) (I:Inv G st k s):Inv G st (Tr k b c) s:=by
 unfold Tr
 rw [if_pos e]
 exact I
structure Cx (G:Gr) (n:Nat) (A:dT) (sc:gF) (env:Env) (ρ:List (Nm×V)) (k:List It):Prop where
 B:Base G
 R:Rm A n
 F:MK env sc
 aHr:JD G env ρ k
theorem Cx.on (C:Cx G n A sc env ρ k) {i:It}:Cx G n A sc env ρ (i::k):=⟨C.B,C.R,C.F,C.aHr.cons⟩
noncomputable def kT (G:Gr) (X:Dg) (n:Nat):Prop:=∀sc x e,lM sc x e=true->∀A env ρ k,Cx G n A sc env ρ k->RR G A k (X.E ρ x) (eval e env) (Vl k)
noncomputable def Ih (G:Gr) (X:Dg) (n:Nat):Prop:=∀sc x e,lM sc x e=true->∀A env ρ k,Cx G n A sc env ρ k->RR G A k (X.E ρ x>>=truthOf) (isTrue e env (eval e env)) (Tr k)
theorem kT.go {x:Ex} {Q:aG->aK->Prop} (S:kT G X n) (hc:lM sc x e=true) (C:Cx G n A sc env ρ k) (e1:X.E ρ x st=some (v,st')) (I:Inv G st k s) (c:∀w s',Inv G st' (.v v w::k) s'->Q w s'):aO (model G.p G.w) A (eval e env) Q E s:=(S _ _ _ hc _ _ _ _ C).go e1 I c
theorem Ih.go {x:Ex} {b:Bool} {Q:Bool->aK->Prop} (S:Ih G X n) (hc:lM sc x e=true) (C:Cx G n A sc env ρ k) (e1:(X.E ρ x>>=truthOf) st=some (b,st')) (I:Inv G st k s) (c:∀s',Inv G st' k s'->Q b s'):aO (model G.p G.w) A (isTrue e env (eval e env)) Q E s:=(S _ _ _ hc _ _ _ _ C).go e1 I λt s I=>Tr.elim I λe I=>e▸c s I
theorem Zj {a b:It}:(a::k).Sublist (a::b::k):= .cons_cons _ (.cons _ (.refl _))
theorem aNh {a b c:It}:(a::k).Sublist (a::b::c::k):= .cons_cons _ (.cons _ (.cons _ (.refl _)))
theorem Ij {a:It}:k.Sublist (a::k):= .cons _ (.refl _)
theorem cQ {a b:Bool} (h:(a&&b)=true):a=true/\b=true:=aM.mp h
theorem aY {m:M α} {f:α->M β} {a:α} {r:Option (β×St)} (e:m st=some (a,st')) (e2:f a st'=r):(m>>=f) st=r:=by
 show M.bind m f st=r
 unfold M.bind
 rw [e]
 exact e2
theorem rY {r:List Expr} (h:isPlain e=true):starEach (e::r) env=(false,eval e env)::starEach r env:=by
 cases e<;>first | rfl | exact lH h
theorem kW (es:List Ex):∀l:List Expr,Fy sc es l=true->backTo pos (starEach l env)=starEach l env/\(starEach l env).any (·.1)=false:=by
 induction es with
 | nil=>
  intro l hc
  rw [cJ.mp hc]
  exact ⟨rfl,rfl⟩
 | cons x xs i=>
  intro l hc
  cases l with
  | nil=>exact lH hc
  | cons e r=>
   have hc:=cQ hc
   have i:=i r hc.2
   rw [rY (cQ hc.1).1]
   exact ⟨(show (false,eval e env)::backTo pos (starEach r env)=_ by rw [i.1]),i.2⟩
theorem Inv.pack {vs:List V} {ws:List aG} (I:Inv G st (.vs vs ws:: .v v w::k) s):Inv G st (.vs (v::vs) (w::ws)::k) s:=Inv.elim I λY Y Y I=>Inv.at ((I.vals (dZ.cons (I.uJ _ (.tail _ (.head _))) (I.uJ _ (.head _)))).sub aNh)
theorem aCw (S:kT G X n) (es:List Ex):∀ (l:List Expr) (k:List It),Fy sc es l=true->Cx G n A sc env ρ k->RR G A k (Yd (X.E ρ) es) (spliced (starEach l env)) (λvs ws=> .vs vs ws::k):=by
 induction es with
 | nil=>
  intro l k hc C st vs st' he s E I
  rw [cJ.mp hc]
  exact Dm (pureE (P:=λvs st'=>Inv G st' (.vs vs []::k) s) he (Inv.elim I λY Y Y I=>Inv.at (I.vals rfl)))
 | cons x xs i=>
  intro l k hc C st vs st' he s E I
  cases l with
  | nil=>exact lH hc
  | cons e r=>
   have hc:=cQ hc
   have hx:=cQ hc.1
   rw [rY hx.1]
   exact cE he λv s1 e1 he=>cE he λus s2 e2 he=>rR (S.go hx.2 C e1 I λw s' I=>(i r _ hc.2 C.on).go e2 I λws s' I=>pureE (P:=λvs st'=>Inv G st' (.vs vs (w::ws)::k) s') he (Inv.pack I))
theorem Zq (vs:List V):∀ {xs:List aE} {st st':St},Of vs st=some (xs,st')->vs=xs.map .d/\st=st':=by
 induction vs with
 | nil=>exact λe=>pureE (P:=λxs st'=>([]:List V)=xs.map .d/\_=st') e ⟨rfl,rfl⟩
 | cons v vs i=>exact λ{xs st st'} e=>Eb e λx ev e=>cE e λys s e1 e=>pureE (P:=λxs st'=>v::vs=xs.map .d/\st=st') e ⟨by rw [ev,(i e1).1];rfl,(i e1).2⟩
theorem IM (F:Ex->M V) (es:List Ex):∀ {vs:List V} {st st':St},Yd F es st=some (vs,st')->vs.length=es.length:=by
 induction es with
 | nil=>exact λe=>pureE (P:=λxs Y=>xs.length=0) e rfl
 | cons x xs i=>exact λe=>cE e λv s e1 e=>cE e λus s e2 e=>pureE (P:=λvs Y=>vs.length=xs.length+1) e (congrArg (· +1) (i e2))
theorem DF {σ:Wd} (xs:List aE):∀ws:List aG,dZ (Rep G h σ) (xs.map .d) ws->jM h σ.out xs ws:=dR (motive:=λxs=>∀ws:List aG,dZ (Rep G h σ) (xs.map .d) ws->jM h σ.out xs ws) (λY r=>r) (λY Y i Y r=>r.elim λY Y e a b=>e▸jM.cons a (i _ b)) xs
theorem aCx (S:kT G X n) {es:List Ex} {l:List Expr} {f:List aE->M α} {a:α} {Q:List aG->aK->Prop} (C:Cx G n A sc env ρ k) (hc:(Fy sc es l&&decide (es.length<=1000))=true) (he:(Yd (X.E ρ) es>>=λvs=>Of vs>>=f) st=some (a,st')) (I:Inv G st k s)
  (c:∀xs ws st1 h tk mu,ws.length=xs.length->xs.length<=1000->f xs st1=some (a,st')->Iv G st1 (.vs (xs.map .d) ws::k) h mu->jM h (Wd.out ⟨mu,bP k⟩) xs ws->Q ws (G.at h tk)):aO (model G.p G.w) A (spliced (backTo pos (starEach l env))) Q E s:=by
 have hc:=cQ hc
 rw [(kW es l hc.1).1]
 refine cE he λvs s1 e1 he=>cE he λxs s2 e2 he=>(aCw S es l k hc.1 C).go e1 I λws s' I=> ?_
 have m:=Zq vs e2
 have z:xs.length=es.length:=by rw [<-IM _ _ e1,m.1,aI]
 rw [<-m.2] at he
 rw [m.1] at I
 exact Inv.elim I λh tk mu I=>c xs ws s1 h tk mu ((dZ.len (I.uJ _ (.head _))).trans (aI ..)) (z▸of_decide_eq_true hc.2) he I (DF _ _ (I.uJ _ (.head _)))
theorem Iv.aIw {tk:Nat} (I:Iv G st k h mu) (kp:cU [] h h') (r:Rep G h' ⟨mu,bP k⟩ v w):Inv G st (Vl k v w) (G.at h' tk):=Inv.at (I.val kp r)
theorem Bw {n:Nat} (z:n<=1000):n<=bW/\n<=sizeLine:=⟨aB z (by decide),aB z (by decide)⟩
theorem xK {m:M V} {j:Nat} {f:FE->Bool} (h:tR (j+1) e f=true) (c:∀F,f F=true->RR G A k m (eval ((aCm F).getD j default) env) (Vl k)):RR G A k m (eval e env) (Vl k):=iJ (P:=λe=>RR G A k m (eval e env) (Vl k)) h c
theorem aIe (S:kT G X n) (C:Cx G n A sc env ρ k) {es:List Ex} (hc:lM sc (.tup es) e=true):RR G A k (hY X ρ (.tup es)) (eval e env) (Vl k):=
 xK hc λF hc=>by
 intro st v st' he s E I
 exact Tuple_ (aCx (f:=λl=>(pure (.d (.tuple l)):M V)) S C hc he I λxs ws s1 h tk mu z z' he I d=>pureE (P:=λv st'=>aO _ A (newTuple ws) (λw s'=>Inv G st' (Vl k v w) s') E (G.at h tk)) he
  (wH (s:=G.at h tk) ((I.sub Ij).aIw (.push _ _) ((I.sub Ij).Os d (Bw z').1)) (z▸(Bw z').2)))
theorem aIm (S:kT G X n) (C:Cx G n A sc env ρ k) {es:List Ex} (hc:lM sc (.lst es) e=true):RR G A k (hY X ρ (.lst es)) (eval e env) (Vl k):=
 xK hc λF hc=>by
 intro st v st' he s E I
 exact List_ (aCx (f:=λl=>(pure (.d (.list l)):M V)) S C hc he I λxs ws s1 h tk mu z z' he I d=>pureE (P:=λv st'=>aO _ A (newList ws) (λw s'=>Inv G st' (Vl k v w) s') E (G.at h tk)) he
  (tM (s:=G.at h tk) ((I.sub Ij).aIw (.push _ _) ((I.sub Ij).Xr d (Bw z').1)) (z▸(Bw z').2)))
theorem WJ {o:O} {b:V} {P:V->St->Prop} (e:(Ly o>>=λr=>(pure (.ref r):M V)) st=some (b,st')) (c:P (.ref st.next) (st.add o)):P b st':=cE e λr s e1 e2=>pureE (P:=P) e2 (by have q:=cL (aF e1);exact q.1▸q.2▸c)
theorem Iv.aEm {o:O} {ob:Obj} {tk:Nat} (I:Iv G st k h mu) (f:tL h ⟨mu,bP k⟩ (h.push ob) ⟨mu++[h.objs.size],bP k⟩->Kv G (h.push ob) ⟨mu++[h.objs.size],bP k⟩ h.objs.size o):Inv G (st.add o) (Vl k (.ref st.next) (.ref h.objs.size)) (G.at (h.push ob) tk):=by
 have q:=I.new (.push h ob) (bM _) (by rw [cO];exact cI _) f
 exact Inv.at (q.1.val (.refl _) ⟨_,q.2,rfl⟩)
theorem aCa (S:kT G X n) (C:Cx G n A sc env ρ k) {es:List Ex} (hc:lM sc (.zE es) e=true):RR G A k (hY X ρ (.zE es)) (eval e env) (Vl k):=
 xK hc λF hc=>by
 intro st v st' he s E I
 exact List_ (aCx (f:=λl=>Ly (.list l)>>=λr=>(pure (.ref r):M V)) S C hc he I λxs ws s1 h tk mu z z' he I d=>WJ (P:=λv st'=>aO _ A (newList ws) (λw s'=>Inv G st' (Vl k v w) s') E (G.at h tk)) he
  (tM (s:=G.at h tk) ((I.sub Ij).aEm (o:= .list xs) λK=>⟨ws.toArray,0,bC _ rfl,K.Sr d,(Bw z').1⟩) (z▸(Bw z').2)))
theorem zF {a:List α} {b:List β} (h:(a.isEmpty&&b.isEmpty)=true):a=[]/\b=[]:=(cQ h).imp cJ.mp cJ.mp
theorem aCd (C:Cx G n A sc env ρ k) (hc:lM sc .Xg e=true):RR G A k (hY X ρ .Xg) (eval e env) (Vl k):=
 xK hc λF hc=>by
 intro st v st' he s E I
 show aO _ A (eval (.Dict F.ks F.l F.pos) env) _ E s
 rw [(zF hc).1,(zF hc).2,eval_Dict_empty]
 exact Inv.elim I λh tk mu I=>WJ (P:=λv st'=>aO (model G.p G.w) A (do standAt F.pos;newDict) (λw s'=>Inv G st' (Vl k v w) s') E (G.at h tk)) he (aA (eD (iL (I.aEm (o:= .di []) λK=>⟨[],Cf h,rfl,fJ _⟩))))
open Classical in
theorem aIk (C:Cx G n A sc env ρ k) (hc:lM sc .aAv e=true):RR G A k (hY X ρ .aAv) (eval e env) (Vl k):=
 xK hc λF hc=>by
 intro st v st' he s E I
 show aO _ A (eval (.Dict F.ks F.l F.pos) env) _ E s
 rw [(zF hc).1,(zF hc).2,eval_Dict_empty]
 exact Inv.elim I λh tk mu I=>WJ (P:=λv st'=>aO (model G.p G.w) A (do standAt F.pos;newDict) (λw s'=>Inv G st' (Vl k v w) s') E (G.at h tk)) he (aA (eD (iL (I.aEm (o:= .dt []) λK=>⟨[],Heap.DictOfH.new h,rfl,fJ _⟩))))
theorem qW (he:(pure u:M V) st=some (v,st')) (I:Inv G st k s) (tk:Nat) (r:∀h σ,Rep G h σ u w):Inv G st' (Vl k v w) {s with toks:=tk}:=pureE (P:=λv st'=>Inv G st' (Vl k v w) {s with toks:=tk}) he (Inv.elim (P:=λs=>Inv G st (Vl k u w) {s with toks:=tk}) I λh Y mu I=>Inv.at (I.val (.refl h) (r _ _)))
theorem aBz (hc:lM sc .none e=true):RR G A k (hY X ρ .none) (eval e env) (Vl k):=xK hc λF hc=>by
 intro st v st' he s E I
 show aO _ A (eval (.Constant F.c F.n F.pos) env) _ E s
 rw [of_decide_eq_true hc]
 exact aH (qW he I s.toks λY Y=>rfl)
theorem aCg {b:Bool} (hc:lM sc (.bool b) e=true):RR G A k (hY X ρ (.bool b)) (eval e env) (Vl k):=xK hc λF hc=>by
 intro st v st' he s E I
 show aO _ A (eval (.Constant F.c F.n F.pos) env) _ E s
 rw [of_decide_eq_true hc]
 exact aH (qW he I s.toks λY Y=>rfl)
theorem aIo {i:Int} (hc:lM sc (.int i) e=true):RR G A k (hY X ρ (.int i)) (eval e env) (Vl k):=xK hc λF hc=>by
 intro st v st' he s E I
 show aO _ A (eval (.Constant F.c F.n F.pos) env) _ E s
 rw [of_decide_eq_true hc]
 exact wpAny_mkInt (qW he I _ λY Y=>⟨_,rfl⟩)
theorem aCt {x:Str} {P:Expr->Prop} (hc:Sb x e=true) (k:∀n p,P (.Constant (.str x) n p)):P e:=iJ hc λF hc=>by
 show P (.Constant F.c F.n F.pos)
 rw [of_decide_eq_true hc]
 exact k _ _
theorem aIg {m:Nm} (hc:lM sc (.str m) e=true):RR G A k (hY X ρ (.str m)) (eval e env) (Vl k):=aCt (P:=λe=>RR G A k (hY X ρ (.str m)) (eval e env) (Vl k)) (cQ hc).1 λn p=>by
 intro st v st' he s E I
 exact wpAny_mkText (qW he I _ λY Y=>⟨⟨(cQ (cQ hc).2).1,of_decide_eq_true (cQ (cQ hc).2).2⟩,_,rfl⟩)
theorem aQc (C:Cx G n A sc env ρ k) {x:Nm} (hc:lM sc (.v x) e=true):RR G A k (hY X ρ (.v x)) (eval e env) (Vl k):=Cv (P:=λe=>RR G A k (hY X ρ (.v x)) (eval e env) (Vl k)) hc λpos hk hd=>VK C.F C.aHr hk hd
theorem aIq (C:Cx G n A sc env ρ k) {x:Nm} (hc:lM sc (.Nq x) e=true):RR G A k (hY X ρ (.Nq x)) (eval e env) (Vl k):=Cv (P:=λe=>RR G A k (hY X ρ (.Nq x)) (eval e env) (Vl k)) hc λpos hk hd=>aDk C.B C.F hk hd
theorem aIs (S:kT G X n) (C:Cx G n A sc env ρ k) {o:Op} {a b:Ex} (hc:lM sc (.bin o a b) e=true):RR G A k (hY X ρ (.bin o a b)) (eval e env) (Vl k):=xK hc λF hc=>by
 intro st v st' he s E I
 have hc:=cQ hc
 show aO _ A (eval (.BinOp F.x F.op F.y F.pos) env) _ E s
 rw [of_decide_eq_true (cQ hc.1).1]
 exact cE he λv1 s1 e1 he=>cE he λv2 s2 e2 he=>wpAny_BinOp (S.go (cQ hc.1).2 C e1 I λw1 s I=>S.go hc.2 C.on e2 I λw2 s I=>(aDl (.tail _ (.head _)) (.head _)).go he I λw s I=>Inv.sub I aNh)
theorem aIj (S:kT G X n) (C:Cx G n A sc env ρ k) {a:Ex} (hc:lM sc (.neg a) e=true):RR G A k (hY X ρ (.neg a)) (eval e env) (Vl k):=xK hc λF hc=>by
 intro st v st' he s E I
 have hc:=cQ hc
 show aO _ A (eval (.UnaryOp F.uo F.x F.pos) env) _ E s
 rw [of_decide_eq_true hc.1]
 exact cE he λv1 s1 e1 he=>pA he λi ei he=>wpAny_UnaryOp (S.go hc.2 C e1 I λw1 s I=>by
  have q:∃t,w1= .int i t:=Inv.elim (P:=λY=>∃t,w1= .int i t) I λh tk mu I=>Rep.d' (I.has (.head _)) ei
  exact q.elim λt e=>by rw [e];exact PyProof.Rows.neg_int (qW he (Inv.sub I Ij) _ λY Y=>⟨_,rfl⟩))
theorem aIi (S:kT G X n) (C:Cx G n A sc env ρ k) {a:Ex} (hc:lM sc (.not a) e=true):RR G A k (hY X ρ (.not a)) (eval e env) (Vl k):=xK hc λF hc=>by
 intro st v st' he s E I
 have hc:=cQ hc
 show aO _ A (eval (.UnaryOp F.uo F.x F.pos) env) _ E s
 rw [of_decide_eq_true hc.1]
 refine cE he λv1 s1 e1 he=>cE he λt s2 e2 he=>wpAny_UnaryOp (S.go hc.2 C e1 I λw1 s I=> ?_)
 unfold unaryOp
 refine bX ?_
 show aO _ _ (do return Aw (!(<-truthy w1))) _ E _
 exact aA ((Ac (.head _)).go e2 I λb s I=>Tr.elim I λeb I=>aH (eb▸qW he (Inv.sub I Ij) s.toks λY Y=>rfl))
end
section
variable {α β γ:Type} {G:Gr} {A:dT} {k k':List It} {st st':St} {s:aK} {h h':Heap} {mu:List Addr} {v u:V} {w w1 w2:aG} {E:aG->aK->Prop} {ρ:List (Nm×V)} {env:Env} {sc:gF} {X:Dg} {n:Nat} {e:Expr} {pos:Pos}
theorem Ug {P:List Expr->Prop} {x:Ex} {xs:List Ex} {l:List Expr} (h:Fy sc (x::xs) l=true) (c:∀e r,isPlain e=true->lM sc x e=true->Fy sc xs r=true->P (e::r)):P l:=by
 cases l with
 | nil=>exact lH h
 | cons e r=>exact c e r (cQ (cQ h).1).1 (cQ (cQ h).1).2 (cQ h).2
noncomputable def aHs (b:Bool) (F:Ex->M V) (e:Ex) (r:List Ex):M V:=match b with
 | true=>ZR F e r
 | false=>aMy F e r
theorem AZ (b:Bool) (F:Ex->M V) (e e':Ex) (r:List Ex):aHs b F e (e'::r)=F e>>=λv=>truthOf v>>=λt=>if t=b then aHs b F e' r else pure v:=by
 cases b with
 | true=>rfl
 | false=>exact congrArg (F e>>= ·) (funext λv=>congrArg (truthOf v>>= ·) (funext λt=>by cases t<;>rfl))
theorem HT (b:Bool) (F:Ex->M V) (e:Ex):aHs b F e []=F e:=by cases b<;>rfl
noncomputable def HS (b:Bool):BoolOp:=match b with
 | true=> .And
 | false=> .Or
theorem CC {b:Bool} {x y:Sem aG} {r:List (Sem aG)} {Q:aG->aK->Prop} (c:aO (model G.p G.w) A x (λv s=>aO (model G.p G.w) A (truthy v) (λt s=>if t=b then aO (model G.p G.w) A (boolOp pos (HS b) (y::r)) Q E s else Q v s) E s) E s):aO (model G.p G.w) A (boolOp pos (HS b) (x::y::r)) Q E s:=by
 show aO _ A (do
  let v<-x
  standAt pos
  let t<-holding [v] (truthy v)
  match HS b,t with
  | .And,false | .Or,true=>pure v
  | _,_=>boolOp pos (HS b) (y::r)) Q E s
 refine aA (gN c (λv s c=>aA (eD (aA (bX (gN c (λt s c=> ?_) λY Y e=>e))))) λY Y e=>e)
 cases b<;>cases t<;>first | exact c | exact aH c
theorem Kt {b:Bool} {x:Expr} {r:List Expr} {Q:Bool->aK->Prop} (c:aO (model G.p G.w) A (isTrue x env (eval x env)) (λt s=>if t=b then aO (model G.p G.w) A (allTrue (HS b) r env) Q E s else Q t s) E s):aO (model G.p G.w) A (allTrue (HS b) (x::r) env) Q E s:=by
 rw [arm_allTrue_cons]
 refine aA (gN c (λt s c=> ?_) λY Y e=>e)
 cases b<;>cases t<;>first | exact c | exact aH c
theorem aIn (S:kT G X n) (b:Bool) (es:List Ex):∀ (x:Ex) (l:List Expr) (k:List It),Fy sc (x::es) l=true->Cx G n A sc env ρ k->RR G A k (aHs b (X.E ρ) x es) (boolOp pos (HS b) (evalEach l env)) (Vl k):=by
 induction es with
 | nil=>
  intro x l k hc C st v st' he s E I
  rw [HT] at he
  exact Ug (P:=λl=>aO _ A (boolOp pos (HS b) (evalEach l env)) _ E s) hc λe r Y h1 h2=>by
   rw [cJ.mp h2]
   exact S.go h1 C he I λw s I=>I
 | cons x2 xs i=>
  intro x l k hc C st v st' he s E I
  rw [AZ] at he
  exact Ug (P:=λl=>aO _ A (boolOp pos (HS b) (evalEach l env)) _ E s) hc λe r Y h1 h2=>by
   have i:=i x2 r k h2 C
   revert i
   exact Ug (P:=λr=>RR G A k (aHs b (X.E ρ) x2 xs) (boolOp pos (HS b) (evalEach r env)) (Vl k)->aO _ A (boolOp pos (HS b) (evalEach (e::r) env)) _ E s) h2 λe2 r Y Y Y i=>
    cE he λv1 s1 e1 he=>cE he λt s2 e2 he=>CC (S.go h1 C e1 I λw s I=>(Ac (.head _)).go e2 I λt' s I=>Tr.elim I λet I=>by
     rw [<-et]
     by_cases q:t=b
     ·rw [if_pos q] at he⊢;exact i.go he (Inv.sub I Ij) λY Y I=>I
     ·rw [if_neg q] at he⊢;exact pureE (P:=λv st'=>Inv G st' (Vl k v w) s) he I)
theorem Wg {t b:Bool} {st'':St} (e1:truthOf v st=some (t,st'')) (e2:truthOf v st''=some (b,st')):t=b/\st''=st':=by
 have q:st=st'':=aAt e1 λY Y Y e=>e
 rw [q] at e1
 exact cL (aF (e1.symm.trans e2))
theorem aJb (T:Ih G X n) (b:Bool) (es:List Ex):∀ (x:Ex) (l:List Expr),Fy sc (x::es) l=true->Cx G n A sc env ρ k->RR G A k (aHs b (X.E ρ) x es>>=truthOf) (allTrue (HS b) l env) (Tr k):=by
 induction es with
 | nil=>
  intro x l hc C st v st' he s E I
  rw [HT] at he
  exact Ug (P:=λl=>aO _ A (allTrue (HS b) l env) _ E s) hc λe r Y h1 h2=>by
   rw [cJ.mp h2]
   exact Kt (T.go h1 C he I λs I=>by
    by_cases q:v=b
    ·rw [if_pos q,arm_allTrue_nil];exact aH (Tr.mk (by rw [q];cases b<;>rfl) I)
    ·rw [if_neg q];exact Tr.mk rfl I)
 | cons x2 xs i=>
  intro x l hc C st v st' he s E I
  rw [AZ] at he
  exact Ug (P:=λl=>aO _ A (allTrue (HS b) l env) _ E s) hc λe r Y h1 h2=>
   cE he λv2 s3 e' he=>cE e' λv1 s1 e1 e'=>cE e' λt s2 e2 e'=>Kt (T.go h1 C (aY e1 e2) I λs I=>by
    by_cases q:t=b
    ·rw [if_pos q] at e'⊢;exact (i x2 r h2 C).go (aY e' he) I λY Y I=>I
    ·rw [if_neg q] at e'⊢
     exact pureE (P:=λv st=>truthOf v st=some (_,st')->Inv G st' (Tr k _ t) s) e' (λhe=>(Wg e2 he).2▸Tr.mk (Wg e2 he).1.symm I) he)
theorem Cq (r:List (CZ×Ex)):∀ (ops:List Pv) (es:List Expr),YW sc r ops es=true->lastMarks ops es=false:=by
 induction r with
 | nil=>
  intro ops es h
  rw [(zF h).1,(zF h).2]
  rfl
 | cons p r i=>
  intro ops es h
  cases ops with
  | nil=>exact lH h
  | cons o ops=>
  cases es with
  | nil=>exact lH h
  | cons e es=>
   have h:=cQ h
   have i:=i ops es h.2
   cases ops with
   | nil=>
    cases es with
    | nil=>
     have q:=(cQ (cQ h.1).1).2
     show behindInMarks o e=false
     cases e<;>first | rfl | exact lH q
    | cons _ _=>rfl
   | cons _ _=>exact i
theorem YV {P:List Pv->List Expr->Prop} {p:CZ×Ex} {r:List (CZ×Ex)} {ops:List Pv} {es:List Expr} (h:YW sc (p::r) ops es=true) (c:∀e ops es,lM sc p.2 e=true->YW sc r ops es=true->P (Vy p.1::ops) (e::es)):P ops es:=by
 cases ops with
 | nil=>exact lH h
 | cons o ops=>
 cases es with
 | nil=>exact lH h
 | cons e es=>
  have h:=cQ h
  have h':=cQ h.1
  rw [of_decide_eq_true (cQ h'.1).1]
  exact c e ops es h'.2 h.2
theorem UK (S:kT G X n) (r:List (CZ×Ex)):∀ (ops:List Pv) (es:List Expr) (v1:V) (w1:aG) (k:List It),YW sc r ops es=true->Cx G n A sc env ρ k->It.v v1 w1∈k->RR G A k (RQ (X.E ρ) v1 r) (compareChain pos w1 ops (evalEach es env)) (Vl k):=by
 induction r with
 | nil=>exact λY Y Y Y Y Y Y Y Y Y Y he=>cC he
 | cons p r i=>
  intro ops es v1 w1 k hc C m st v st' he s E I
  refine YV (P:=λops es=>aO _ A (compareChain pos w1 ops (evalEach es env)) _ E s) hc λe ops es h1 h2=>cE he λy s1 e1 he=>cE he λc s2 e2 he=> ?_
  cases r with
  | nil=>
   rw [(zF h2).1,(zF h2).2]
   exact chain_last (S.go h1 C e1 I λw2 s I=>(Wv C.B C.R (.tail _ m) (.head _)).go e2 I λw s I=>pureE (P:=λv st'=>Inv G st' (Vl k v w) s) he (Inv.sub I Zj))
  | cons p2 r=>
   refine YV (P:=λops es=>YW sc (p2::r) ops es=true->aO _ A (compareChain pos w1 (Vy p.1::ops) (evalEach (e::es) env)) _ E s) h2 (λe' ops es Y Y h2=> ?_) h2
   refine chain_link (S.go h1 C e1 I λw2 s I=>(Wv C.B C.R (.tail _ m) (.head _)).go e2 I λw s I=>cE he λt s3 e3 he=>(Ac (.head _)).go e3 I λt' s J=>Tr.elim J λet I=> ?_)
   rw [<-et]
   cases t with
   | true=>exact (i _ _ y w2 _ h2 (C.on (i:= .v y w2)) (.head _)).go he (Inv.sub I Ij) λY Y I=>Inv.sub I Zj
   | false=>exact pureE (P:=λv st'=>Inv G st' (Vl k v w) s) he (Inv.sub I Zj)
theorem UT (S:kT G X n) (r:List (CZ×Ex)):∀ (ops:List Pv) (es:List Expr) (v1:V) (w1:aG) (k:List It),YW sc r ops es=true->Cx G n A sc env ρ k->It.v v1 w1∈k->RR G A k (RQ (X.E ρ) v1 r>>=truthOf) (testChain pos w1 ops (evalEach es env)) (Tr k):=by
 induction r with
 | nil=>exact λY Y Y Y Y Y Y Y Y Y Y he=>cC he
 | cons p r i=>
  intro ops es v1 w1 k hc C m st v st' he s E I
  refine YV (P:=λops es=>aO _ A (testChain pos w1 ops (evalEach es env)) _ E s) hc λe ops es h1 h2=>cE he λv2 s9 he ht=>cE he λy s1 e1 he=>cE he λc s2 e2 he=> ?_
  cases r with
  | nil=>
   rw [(zF h2).1,(zF h2).2]
   exact test_last (S.go h1 C e1 I λw2 s I=>(Wv C.B C.R (.tail _ m) (.head _)).go e2 I λw s I=>pureE (P:=λv st9=>truthOf v st9=some (_,st')->aO _ A (truthy w) _ E s) he (λht=>(Ac (.head _)).go ht I λt' s I=>Tr.elim I λet I=>Tr.mk et (Inv.sub I (.cons _ Ij))) ht)
  | cons p2 r=>
   refine YV (P:=λops es=>YW sc (p2::r) ops es=true->aO _ A (testChain pos w1 (Vy p.1::ops) (evalEach (e::es) env)) _ E s) h2 (λe' ops es Y Y h2=> ?_) h2
   refine test_link (S.go h1 C e1 I λw2 s I=>(Wv C.B C.R (.tail _ m) (.head _)).go e2 I λw s I=>cE he λt s3 e3 he=>(Ac (.head _)).go e3 I λt' s J=>Tr.elim J λet I=> ?_)
   rw [<-et]
   cases t with
   | true=>exact (i _ _ y w2 _ h2 (C.on (i:= .v y w2)) (.head _)).go (aY he ht) (Inv.sub I Ij) λY Y I=>Tr.elim I λet I=>Tr.mk et (Inv.sub I Ij)
   | false=>exact pureE (P:=λv st9=>truthOf v st9=some (_,st')->Inv G st' (Tr k _ false) s) he (λht=>(Wg e3 ht).2▸Tr.mk (Wg e3 ht).1.symm (Inv.sub I (.cons _ Ij))) ht
theorem aIu (S:kT G X n) (C:Cx G n A sc env ρ k) {es:List Ex} (hc:lM sc (.and es) e=true):RR G A k (hY X ρ (.and es)) (eval e env) (Vl k):=xK hc λF hc=>by
 have hc:=cQ hc
 show RR G A k _ (eval (.BoolOp F.bo F.l F.pos) env) (Vl k)
 rw [of_decide_eq_true hc.1]
 cases es with
 | nil=>exact λY Y Y he=>cC he
 | cons x es=>exact aIn (pos:=F.pos) S true es x F.l k hc.2 C
theorem aNk (S:kT G X n) (C:Cx G n A sc env ρ k) {es:List Ex} (hc:lM sc (.or es) e=true):RR G A k (hY X ρ (.or es)) (eval e env) (Vl k):=xK hc λF hc=>by
 have hc:=cQ hc
 show RR G A k _ (eval (.BoolOp F.bo F.l F.pos) env) (Vl k)
 rw [of_decide_eq_true hc.1]
 cases es with
 | nil=>exact λY Y Y he=>cC he
 | cons x es=>exact aIn (pos:=F.pos) S false es x F.l k hc.2 C
theorem aIr (S:kT G X n) (C:Cx G n A sc env ρ k) {a:Ex} {r:List (CZ×Ex)} (hc:lM sc (.cmp a r) e=true):RR G A k (hY X ρ (.cmp a r)) (eval e env) (Vl k):=xK hc λF hc=>by
 have hc:=cQ hc
 intro st v st' he s E I
 show aO _ A (eval (.Compare F.x F.cs F.l F.pos) env) _ E s
 rw [arm_eval_Compare,Gf _ _ _ (Cq r _ _ hc.2)]
 exact cE he λv1 s1 e1 he=>aA (S.go hc.1 C e1 I λw1 s I=>(UK S r _ _ v1 w1 _ hc.2 C.on (.head _)).go he I λw s I=>Inv.sub I Zj)
theorem aIp (S:kT G X n) (T:Ih G X n) (C:Cx G n A sc env ρ k) {c a b:Ex} (hc:lM sc (.gR c a b) e=true):RR G A k (hY X ρ (.gR c a b)) (eval e env) (Vl k):=xK hc λF hc=>by
 have hc:=cQ hc
 intro st v st' he s E I
 refine cE he λv1 s1 e1 he=>cE he λt s2 e2 he=>wpAny_IfExp (T.go (cQ hc.1).1 C (aY e1 e2) I λs I=> ?_)
 cases t with
 | true=>exact S.go (cQ hc.1).2 C he I λY Y I=>I
 | false=>exact S.go hc.2 C he I λY Y I=>I
theorem JO {o i:aG} (h:isPlain e=true):subscripted e false o i=operate [o,i] (getItem o i):=by
 cases e<;>first | rfl | exact lH h
theorem aIf (S:kT G X n) (C:Cx G n A sc env ρ k) {a i:Ex} (hc:lM sc (.sub a i) e=true):RR G A k (hY X ρ (.sub a i)) (eval e env) (Vl k):=xK hc λF hc=>by
 have hc:=cQ hc
 intro st v st' he s E I
 exact cE he λv1 s1 e1 he=>cE he λv2 s2 e2 he=>Subscript_ (S.go (cQ hc.1).2 C e1 I λw1 s I=>S.go hc.2 C.on e2 I λw2 s I=>Inv.elim I λh tk mu I=>
  have q:=LQ C.R I (I.has (.tail _ (.head _))) (I.has (.head _)) he
  (q.2 tk E (λw s=>Inv G st' (Vl k v w) s) λw h' tk' kp r=>Inv.sub (Inv.at (q.1▸I.val kp r)) aNh).elim λT p=>p.elim λid p=>tail_any (ops:=[w1,w2]) p.2.1 p.1 p.2.2 (JO (cQ hc.1).1))
noncomputable def Vo (k:List It) (v:Option V) (w:aG):List It:=match v with
 | none=>if w= .none then k else [.no]
 | some v=> .v v w::k
theorem aAf (S:kT G X n) (C:Cx G n A sc env ρ k) {o:Option Ex} {eo:Option Expr} (hc:aOu sc o eo=true):RR G A k (aNf (X.E ρ) o) (valueOrNone (evalOpt eo env)) (Vo k):=by
 intro st v st' he s E I
 cases o with
 | none=>
  rw [lJ.mp hc]
  exact pureE (P:=λv st'=>aO _ A (valueOrNone (evalOpt none env)) (λw s=>Inv G st' (Vo k v w) s) E s) he (aH (by show Inv G _ (if jD= .none then k else [.no]) s;rw [if_pos rfl];exact I))
 | some x=>exact Co hc λe ee hc=>by rw [ee];exact cE he λv1 s1 e1 he=>pureE (P:=λv st'=>aO _ A _ (λw s=>Inv G st' (Vo k v w) s) E s) he (S.go hc C e1 I λw s I=>I)
theorem Vo.rep {o:Option V} {σ:Wd} (I:∀i∈Vo k o w,i.ok G h σ):MD G h σ o w/\∀i∈k,i∈Vo k o w:=by
 cases o with
 | none=>
  unfold Vo at I⊢
  by_cases q:w= .none
  ·rw [if_pos q];exact ⟨q,λi m=>m⟩
  ·rw [if_neg q] at I;exact (I _ (.head _)).elim
 | some v=>exact ⟨I _ (.head _),λi m=> .tail _ m⟩
theorem Vo.sub {o:Option V} {σ:Wd} (I:∀i∈Vo k o w,i.ok G h σ):k.Sublist (Vo k o w):=by
 cases o with
 | none=>
  unfold Vo at I⊢
  by_cases q:w= .none
  ·rw [if_pos q];exact .refl _
  ·rw [if_neg q] at I;exact (I _ (.head _)).elim
 | some v=>exact Ij
theorem Vo.cx {o:Option V} (C:Cx G n A sc env ρ k) (I:Inv G st (Vo k o w) s):Cx G n A sc env ρ (Vo k o w):=⟨C.B,C.R,C.F,C.aHr.mono (Inv.elim (P:=λY=>∀i∈k,i∈Vo k o w) I λY Y Y I=>(Vo.rep I.uJ).2)⟩
theorem aIh (S:kT G X n) (C:Cx G n A sc env ρ k) {a:Ex} {lo hi:Option Ex} (hc:lM sc (.Wo a lo hi) e=true):RR G A k (hY X ρ (.Wo a lo hi)) (eval e env) (Vl k):=xK hc λF hc=>by
 have hc:=cQ hc
 show RR G A k _ (eval (.Subscript F.x F.y F.pos) env) (Vl k)
 refine iJ (P:=λy=>RR G A k _ (eval (.Subscript F.x y F.pos) env) (Vl k)) hc.2 λF' h=> ?_
 show RR G A k _ (eval (.Subscript F.x (.Slice F'.o1 F'.o2 F'.o3 F'.pos) F.pos) env) (Vl k)
 have h:=cQ h
 have h':=cQ h.1
 rw [lJ.mp h'.1]
 intro st v st' he s E I
 refine cE he λv1 s1 e1 he=>cE he λv2 s2 e2 he=>cE he λv3 s3 e3 he=>Subscript_ (S.go hc.1 C e1 I λw1 s I=> ?_)
 rw [arm_eval_Slice]
 refine aA ((aAf S C.on h'.2).go e2 I λw2 s I=>aA (bX ((aAf S (Vo.cx C.on I) h.2).go e3 I λw3 s I=>aA (bX (aH (Inv.elim I λh tk mu I=> ?_))))))
 have r3:=Vo.rep I.uJ
 have I2:=I.sub (Vo.sub I.uJ)
 have r2:=Vo.rep I2.uJ
 have q:=FC (A:=A) I (I.uJ _ (r3.2 _ (r2.2 _ (.head _)))) (Vo.rep (λi m=>I.uJ i (r3.2 i m))).1 r3.1 he
 refine iL ?_
 exact (q.2 tk E (λw s=>Inv G st' (Vl k v w) s) λw h' tk' kp r=>Inv.sub (Inv.at (q.1▸I.val kp r)) (.cons_cons _ ((List.Sublist.trans (.cons _ (.refl _)) (Vo.sub I2.uJ)).trans (Vo.sub I.uJ)))).elim λT p=>p.elim λid p=>tail_any (ops:=[.ref h.objs.size,w1]) p.2.1 p.1 p.2.2 rfl
set_option tactic.hygienic true in
theorem yQ {o:Expr} {attr:Str} (h:Jx o=true):attributeBase o attr env (eval o env)=eval o env:=by
 cases o with
 | Call f as ks p=>
  cases f with
  | Name id q=>
   cases as with
   | cons _ _=>rfl
   | nil=>
    cases ks with
    | cons _ _=>rfl
    | nil=>
     unfold attributeBase
     dsimp only
     rw [show (id != ("super":Str))=true from h];rfl
  | _=>rfl
 | _=>rfl
theorem aIt (S:kT G X n) (C:Cx G n A sc env ρ k) {a:Ex} {x:Nm} (hc:lM sc (.xN a x) e=true):RR G A k (hY X ρ (.xN a x)) (eval e env) (Vl k):=xK hc λF hc=>by
 have hc:=cQ hc
 intro st v st' he s E I
 show aO _ A (eval (.Attribute F.x F.s F.pos) env) _ E s
 rw [arm_eval_Attribute,yQ (cQ hc.1).2,of_decide_eq_true (cQ hc.1).1]
 exact cE he λv1 s1 e1 he=>aA (S.go hc.2 C e1 I λw1 s I=>aA (eD (aA (bX ((DQ C.B (.head _)).go he I λw s I=>aA (wpAny_letTemporaryGo (aH (Inv.sub I Zj))))))))
end
section
variable {α β γ:Type} {G:Gr} {A:dT} {k k':List It} {st st':St} {s:aK} {h h':Heap} {mu:List Addr} {v u:V} {w w1 w2:aG} {E:aG->aK->Prop} {ρ:List (Nm×V)} {env:Env} {sc:gF} {X X1:Dg} {n:Nat} {e:Expr} {pos:Pos}
noncomputable def Fh (e:Expr):Bool:= ![2,3,4,5].contains (view e).1
theorem isTrue_plain {t:Sem aG} (h:Fh e=true):isTrue e env t=(do
  let v<-t
  standAt e.pos
  holding [v] (truthy v)):=by
 cases e<;>first | rfl | exact lH h
theorem Wz {j:Nat} {f:FE->Bool} (h:tR j e f=true) (d:[2,3,4,5].contains j=false):Fh e=true:=by
 unfold Fh
 rw [beq_iff_eq.mp (cQ h).1,d]
 rfl
theorem aAk (S1:kT G X1 n) {x:Ex} (hc:lM sc x e=true) (C:Cx G n A sc env ρ k) (h:isTrue e env (eval e env)=(do
  let v<-eval e env
  standAt e.pos
  holding [v] (truthy v))):RR G A k (X1.E ρ x>>=truthOf) (isTrue e env (eval e env)) (Tr k):=λst b st' he s E I=>by
 rw [h]
 exact cE he λv s1 e1 e2=>aA (S1.go hc C e1 I λw s I=>aA (eD (bX ((Ac (.head _)).go e2 I λc s J=>Tr.elim J λec I=>Tr.mk ec (Inv.sub I Ij)))))
theorem tK {m:M Bool} {j:Nat} {f:FE->Bool} (h:tR (j+1) e f=true) (c:∀F,f F=true->RR G A k m (isTrue ((aCm F).getD j default) env (eval ((aCm F).getD j default) env)) (Tr k)):RR G A k m (isTrue e env (eval e env)) (Tr k):=iJ (P:=λe=>RR G A k m (isTrue e env (eval e env)) (Tr k)) h c
theorem SL {b t:Bool} {st'':St} (he:nT b st=some (v,st'')) (ht:truthOf v st''=some (t,st')):t=b/\st=st':=pureE (P:=λv st''=>truthOf v st''=some (t,st')->t=b/\st=st') he (λht=>by have q:=cL (aF ht);exact ⟨q.1.symm,q.2⟩) ht
theorem aCo (S:kT G X n) (T:Ih G X n) (hE:X1.E=hY X) (S1:kT G X1 n):Ih G X1 n:=λsc x e hc A env ρ k C=>by
 have gen (h:Fh e=true):RR G A k (X1.E ρ x>>=truthOf) (isTrue e env (eval e env)) (Tr k):=aAk S1 hc C (isTrue_plain h)
 revert gen
 rw [hE]
 cases x with
 | not a=>
  refine λY=>tK hc λF hc st b st' he s E I=> ?_
  have hc:=cQ hc
  show aO _ A (isTrue (.UnaryOp F.uo F.x F.pos) env _) _ E s
  rw [of_decide_eq_true hc.1]
  exact cE he λv2 s3 he ht=>cE he λv1 s1 e1 he=>cE he λt s2 e2 he=>wpAny_isTrue_Not (T.go hc.2 C (aY e1 e2) I λs I=>Tr.mk (SL he ht).1 ((SL he ht).2▸I))
 | and es=>
  refine λY=>tK hc λF hc=> ?_
  have hc:=cQ hc
  show RR G A k _ (isTrue (.BoolOp F.bo F.l F.pos) env _) (Tr k)
  rw [of_decide_eq_true hc.1]
  cases es with
  | nil=>exact λY Y Y he=>cC he
  | cons x es=>exact aJb T true es x F.l hc.2 C
 | or es=>
  refine λY=>tK hc λF hc=> ?_
  have hc:=cQ hc
  show RR G A k _ (isTrue (.BoolOp F.bo F.l F.pos) env _) (Tr k)
  rw [of_decide_eq_true hc.1]
  cases es with
  | nil=>exact λY Y Y he=>cC he
  | cons x es=>exact aJb T false es x F.l hc.2 C
 | gR c a b=>
  refine λY=>tK hc λF hc st r st' he s E I=> ?_
  have hc:=cQ hc
  show aO _ A (isTrue (.IfExp F.x F.y F.z F.pos) env _) _ E s
  rw [arm_isTrue_IfExp]
  refine cE he λv2 s3 he ht=>cE he λv1 s1 e1 he=>cE he λt s2 e2 he=>aA (T.go (cQ hc.1).1 C (aY e1 e2) I λs I=> ?_)
  cases t with
  | true=>exact T.go (cQ hc.1).2 C (aY he ht) I λY I=>Tr.mk rfl I
  | false=>exact T.go hc.2 C (aY he ht) I λY I=>Tr.mk rfl I
 | cmp a r=>
  refine λY=>tK hc λF hc st b st' he s E I=> ?_
  have hc:=cQ hc
  show aO _ A (isTrue (.Compare F.x F.cs F.l F.pos) env _) _ E s
  rw [arm_isTrue_Compare,Gf _ _ _ (Cq r _ _ hc.2)]
  exact cE he λv2 s3 he ht=>cE he λv1 s1 e1 he=>aA (S.go hc.1 C e1 I λw1 s I=>(UT S r _ _ v1 w1 _ hc.2 C.on (.head _)).go (aY he ht) I λb s J=>Tr.elim J λec I=>Tr.mk ec (Inv.sub I Ij))
 | neg a=>
  refine λY=> ?_
  have q:=aAk S1 hc C (ρ:=ρ)
  rw [hE] at q
  exact q (iJ (P:=λe=>isTrue e env (eval e env)=(do let v<-eval e env;standAt e.pos;holding [v] (truthy v))) hc λF hc=>by
   show isTrue (.UnaryOp F.uo F.x F.pos) env _=_
   rw [of_decide_eq_true (cQ hc).1]
   rfl)
 | bad=>exact λY Y Y Y he=>cC he
 | zip a b=>exact λY Y Y Y he=>cC he
 | str m=>exact λg=>g (Wz (cQ hc).1 rfl)
 | v x=>exact λg=>g (Wz (j:=14) (show isNm sc 1 x.str e=true from hc) rfl)
 | Nq x=>exact λg=>g (Wz (j:=14) (show isNm sc 2 x.str e=true from hc) rfl)
 | _=>exact λg=>g (Wz hc rfl)
theorem JS {a:Int} (h:a.natAbs<10^9):a.natAbs.log2<1920:=by
 by_cases h0:a.natAbs=0
 ·rw [h0];decide
 ·exact bA ((Mz h0).mpr (bA h (by decide:10^9<=2^30))) (by decide)
theorem aCe (S:kT G X n) (C:Cx G n A sc env ρ k) {a:Ex} (hc:lM sc (.BK a) e=true):RR G A k (hY X ρ (.BK a)) (eval e env) (Vl k):=xK hc λF hc=>by
 intro st v st' he s E I
 show aO _ A (eval (.JoinedStr F.l F.pos) env) _ E s
 refine Co hc λp ep hc=> ?_
 rw [twoE ep]
 have hc:=cQ hc
 refine JoinedStr_many (joinParts_cons (aCt (P:=λe=>aO _ A (eval e env) _ E s) hc.1 λn1 p1=>wpAny_Constant_str ?_))
 have l0:Uo++Nm.Lq.str=Nm.Lq.str:=by decide+kernel
 show (Uo++Nm.Lq.str).length<=sizeLine/\aO _ A (joinParts (Uo++Nm.Lq.str) _) _ E _
 rw [l0]
 refine ⟨by decide+kernel,joinParts_cons (iJ (P:=λe=>aO _ A (eval e env) _ E _) hc.2 λV hv=> ?_)⟩
 have hv:=cQ hv
 have hv':=cQ hv.1
 show aO _ A (eval (.FormattedValue V.x V.i V.o1 V.pos) env) _ E _
 rw [of_decide_eq_true hv'.1,lJ.mp hv'.2]
 refine cE he λv1 s1 e1 he=>pA he λi ei he=>fB he λg he=>FormattedValue_plain (S.go hv.2 C e1 (Inv.elim (P:=λs=>Inv G st k {s with toks:=s.toks+1}) I λY Y Y I=>Inv.at I) λw s I=> ?_)
 have g:=cQ g
 have g':=cQ g.1
 have q:∃t,w= .int i t:=Inv.elim (P:=λY=>∃t,w= .int i t) I λh tk mu I=>Rep.d' (I.has (.head _)) ei
 have z:(pL i).cps.size<=sizeLine:=aB (of_decide_eq_true g.2) (aB (bJ _) lX)
 refine q.elim λt et=> ?_
 rw [et]
 exact formatField_int_small (JS (of_decide_eq_true g'.1)) ⟨z,joinParts_nil (qW he (Inv.sub I Ij) _ λY Y=>⟨⟨g'.2,of_decide_eq_true g.2⟩,_,rfl⟩) z⟩
noncomputable def UA (pos:Pos) (env:Env):List (Option Expr)->List Expr->List (Sem aG×Sem aG)
 | []=>λY=>[]
 | o::ks=>λl=>match o with
  | none=>[]
  | some e=>match l with
   | []=>[]
   | v::vs=>(eval e env,do let x<-eval v env;standAt pos;pure x)::UA pos env ks vs
theorem aKy {P:List (Option Expr)->Prop} {x:Nm} {ks:List Nm} {kl:List (Option Expr)} (h:Mo (x::ks) kl=true) (c:∀e r,Sb x.str e=true->Mo ks r=true->P (some e::r)):P kl:=by
 cases kl with
 | nil=>exact lH h
 | cons o r=>exact Co (cQ h).1 λe ee q=>ee▸c e r q (cQ h).2
theorem KF (ks:List Nm):∀ (es:List Ex) (kl:List (Option Expr)) (l:List Expr),Mo ks kl=true->Fy sc es l=true->ks.length=es.length->
  (evalEachOpt kl env).zip ((evalEach l env).map λv=>do let x<-v;standAt pos;pure x)=(UA pos env kl l).map (λp=>(some p.1,p.2))/\(UA pos env kl l).length=ks.length:=by
 induction ks with
 | nil=>
  intro es kl l h1 h2 h3
  rw [cJ.mp h1]
  exact ⟨rfl,rfl⟩
 | cons x ks i=>
  intro es kl l h1 h2 h3
  cases es with
  | nil=>exact nomatch h3
  | cons y es=>
   exact Ug (P:=λl=>(evalEachOpt kl env).zip ((evalEach l env).map λv=>do let x<-v;standAt pos;pure x)=(UA pos env kl l).map (λp=>(some p.1,p.2))/\(UA pos env kl l).length=(x::ks).length) h2 λv l Y Y h2=>aKy (P:=λkl=>(evalEachOpt kl env).zip ((evalEach (v::l) env).map λv=>do let x<-v;standAt pos;pure x)=(UA pos env kl (v::l)).map (λp=>(some p.1,p.2))/\(UA pos env kl (v::l)).length=_) h1 λe kl Y h1=>
    have i:=i es kl l h1 h2 (rS h3)
    ⟨congrArg ((some (eval e env),(do let x<-eval v env;standAt pos;pure x:Sem aG)):: ·) i.1,congrArg (· +1) i.2⟩
noncomputable def Cr (G:Gr) (ks:List Nm) (ps:List (aG×aG)):Prop:=Carries (strKind G.p G.w) ps ((ks.map Nm.str).zip (ps.map (·.2)))
theorem UW (S:kT G X n) (ks:List Nm):∀ (es:List Ex) (kl:List (Option Expr)) (l:List Expr) (k:List It) (st:St) (vs:List V) (st':St) (s:aK) (Q:List (aG×aG)->aK->Prop),Mo ks kl=true->Fy sc es l=true->ks.length=es.length->Cx G n A sc env ρ k->Yd (X.E ρ) es st=some (vs,st')->Inv G st k s->
  (∀ps s',Inv G st' (.vs vs (ps.map (·.2))::k) s'->Cr G ks ps->ps.length=ks.length->Q ps s')->aO (model G.p G.w) A (evalPairs (UA pos env kl l)) Q E s:=by
 induction ks with
 | nil=>
  intro es kl l k st vs st' s Q h1 h2 h3 C he I c
  rw [cJ.mp h1]
  cases es with
  | cons _ _=>exact nomatch h3
  | nil=>exact evalPairs_nil (c [] s (pureE (P:=λvs st'=>Inv G st' (.vs vs []::k) s) he (Inv.elim I λY Y Y I=>Inv.at (I.vals rfl))) trivial rfl)
 | cons x ks i=>
  intro es kl l k st vs st' s Q h1 h2 h3 C he I c
  cases es with
  | nil=>exact nomatch h3
  | cons y es=>
   exact Ug (P:=λl=>aO _ A (evalPairs (UA pos env kl l)) Q E s) h2 λv l Y hv h2=>aKy (P:=λkl=>aO _ A (evalPairs (UA pos env kl (v::l))) Q E s) h1 λe kl he' h1=>
    evalPairs_cons (aCt (P:=λe=>aO _ A (eval e env) _ E s) he' λn1 p1=>wpAny_Constant_str (cE he λv1 s1 e1 he=>cE he λus s2 e2 he=>aA (S.go hv C e1 (Inv.elim (P:=λs=>Inv G st k {s with toks:=s.toks+1}) I λY Y Y I=>Inv.at I) λw s I=>aA (eD (aH
     (i es kl l _ s1 us s2 s _ h1 h2 (rS h3) C.on e2 I λps s' I cr z=>pureE (P:=λvs st'=>(∀ps s',Inv G st' (.vs vs (ps.map (·.2))::k) s'->Cr G (x::ks) ps->ps.length=(x::ks).length->Q ps s')->Q _ s') he (λc=>c ((_,w)::ps) s' (Inv.pack I) ⟨Hc G.p G.w _ _,rfl,cr⟩ (congrArg (· +1) z)) c))))))
theorem VD (ks:List Nm):∀ (l:List aE) (ws:List aG) {P:Addr->Prop},jM h P l ws->∀x,Cd (Dt h P) (Ed (ks.zip l) x) (valueAt ((ks.map Nm.str).zip ws) x):=by
 induction ks with
 | nil=>exact λY Y Y Y Y=> .none
 | cons y ks i=>
  intro l ws P d x
  cases l with
  | nil=>rw [show ws=[] from d];exact .none
  | cons z l=>
   refine d.elim λw r e a b=> ?_
   have i:=i l r b x
   unfold Ed valueAt at i⊢
   rw [e]
   show Cd (Dt h P) (((y,z)::ks.zip l).find? _ |>.map _) (((y.str,w)::(ks.map Nm.str).zip r).find? _ |>.map _)
   rw [eB,eB,show (y.str==x)=decide (y.str=x) from rfl]
   cases decide (y.str=x)
   ·exact i
   ·exact .some a
theorem UH:∀ (a:List Str) (b:List aG),a.length=b.length->(a.zip b).map (·.1)=a:=λa b e=>sX (bT e)
theorem AQ {ks:List Nm} (h:ks.Nodup):(ks.map Nm.str).Nodup:=by
 induction ks with
 | nil=>exact .nil
 | cons x ks i=>exact bV.mpr ⟨λm=>(aT.mp m).elim λy q=>(bV.mp h).1 (Re _ _ q.2▸q.1),i (bV.mp h).2⟩
theorem aBy (S:kT G X n) (C:Cx G n A sc env ρ k) {ks:List Nm} {es:List Ex} (hc:lM sc (.Wq ks es) e=true):RR G A k (hY X ρ (.Wq ks es)) (eval e env) (Vl k):=xK hc λF hc=>by
 intro st v st' he s E I
 have c1:=cQ hc
 have c2:=cQ c1.1
 have c3:=cQ c2.1
 have c4:=cQ c3.1
 have c5:=cQ c4.1
 have z:ks.length=es.length:=beq_iff_eq.mp c2.2
 have zk:ks.length<=10:=of_decide_eq_true c3.2
 have sh:=KF (pos:=F.pos) (env:=env) ks es F.ks F.l c5.1 c5.2 z
 refine Inv.elim I λh tk mu I=>cE he λvs s1 e1 he=>cE he λds s2 e2 he=>wpAny_Dict_pairs (s:=G.at h tk) (knd:=strKind G.p G.w) sh.1 (λe=> ?_) (sh.2▸aB zk (by decide)) ?_
 ·have q:=sh.2
  rw [e] at q
  cases ks with
  | nil=>exact lH c1.2
  | cons _ _=>exact nomatch q
 have m:=Zq vs e2
 have J:Iv G st (.ob h.objs.size {cls:= .type "dict",data:= .dict #[]}::k) (h.push {cls:= .type "dict",data:= .dict #[]}) mu:=Iv.same (p:=[]) (p':=[.ob h.objs.size _]) (wr:=[]) I (.push _ _) cB (λa m=> .inr (bT (aC.mp m).symm)) (λa m=>by rw [aC.mp m,cO];exact cI _) (bV.mpr ⟨bN,.nil⟩) cB .nil cB
  λK i m=>by rw [aC.mp m];exact bC _ rfl
 refine UW (s:=G.at (h.push {cls:= .type "dict",data:= .dict #[]}) tk) S ks es F.ks F.l _ st vs s1 _ c5.1 c5.2 z C.on e1 (Inv.at J) λps s I cr zp=>aU I λh1 I=>aU I λtk1 I=>aU I λmu1 I=> ?_
 rw [I.1]
 replace I:=I.2
 have new0:h1.DictOf (strKind G.p G.w) h.objs.size []:=(Cf (knd:=strKind G.p G.w) h).elim λo q=>q.elim λes q=>q.elim λep q=>⟨o,es,ep,(I.uJ _ (.tail _ (.head _))).trans ((bC _ rfl).symm.trans q.1),q.2⟩
 have zw:(ks.map Nm.str).length=(ps.map (·.2)).length:=by rw [aI,aI,zp]
 refine ⟨_,cr,new0,λh2 D sb=> ?_⟩
 rw [merged_nil_of_nodup _ (by rw [UH _ _ zw];exact AQ (of_decide_eq_true c4.2))] at D
 rw [m.1] at I
 refine pureE (P:=λv st'=>Inv G st' (Vl k v (.ref h.objs.size)) _) he ?_
 rw [<-m.2]
 have nd:=I.nd
 refine Inv.at (Iv.same (p:=[.vs _ _,.ob h.objs.size _]) (p':=[.v (.sd (ks.zip ds)) (.ref h.objs.size)]) I (.same sb) (λa m=>by rw [aC.mp m];exact .head _) cB cB .nil cB .nil cB λK i mi=> ?_)
 rw [aC.mp mi]
 have od:(mu1++(h.objs.size::bP k)).Nodup:=nd
 refine ⟨_,_,rfl,C.B.big (I.lo _ (aQ _ (.head _))).1,⟨λx=>(bB.mp od).2.2 _ x _ (.head _) rfl,(bV.mp (bB.mp od).2.1).1⟩,D.mapOf,VD ks ds _ (K.Sr (DF _ _ (I.uJ _ (.head _))))⟩
end
section
variable {α β γ:Type} {G:Gr} {A:dT} {k k':List It} {st st':St} {s:aK} {h h':Heap} {mu:List Addr} {v u:V} {w w1 w2:aG} {E:aG->aK->Prop} {ρ:List (Nm×V)} {env:Env} {sc:gF} {X:Dg} {n:Nat} {e:Expr} {pos:Pos} {F:List (Nm×V)->It}
theorem Vt {I:Addr} {fp wr:List Addr} {n:Nat} {P:Nat->aG->Prop} {S:Nat->Heap->Prop} (W:Un G.p G.w A I fp wr n P S):∀ (m i:Nat) (s:aK) (Q:List aG->aK->Prop),S i s.heap->i+m<=n->
  (∀vs h' tk,vs.length=m->(∀ (j:Nat) v,vs[j]? =some v->P (i+j) v)->S (i+m) h'->(∀b o,b∉wr->s.heap.get? b=some o->h'.get? b=some o)->Q vs {s with heap:=h',toks:=tk})->aO (model G.p G.w) A (draw (.ref I) m) Q E s
 | 0,i,s,Q,hs,_,c=>aH (c [] s.heap s.toks rfl (λj v e=>nomatch e) hs λY Y Y e=>e)
 | m+1,i,s,Q,hs,hn,c=>by
  show aO _ A (do
   match<-pyNext (.ref I) with
   | none=>pure []
   | some v=>return v::(<-holding [v] (draw (.ref I) m))) Q E s
  have e1:i+1+m=i+(m+1):=by rw [bL,dQ 1 m]
  refine aA (W.item i s _ _ (bA (gM (jN m)) hn) hs λv h₁ tk hP hs₁ kp=>aA (bX (Vt W m (i+1) {s with heap:=h₁,toks:=tk} _ hs₁ (e1▸hn) λvs h' tk' hl hv hs' kp'=>aH ?_)))
  refine c (v::vs) h' tk' (congrArg (· +1) hl) (λj u e=> ?_) (e1▸hs') λb o hb e=>kp' b o hb (kp b o hb e)
  cases j with
  | zero=>exact aF e▸hP
  | succ j=>rw [<-bL,lD];exact hv j u e
theorem Hp {a:Addr} {ws:Array aG} {tk:Nat} {Q:List aG->aK->Prop} (hh:A.handled=none) (hs:h.IsTuple a ws\/h.IsList a ws) (c:∀h' tk',cU [] h h'->Q ws.toList (G.at h' tk')):aO (model G.p G.w) A (unpackItems (.ref a) ws.size none) Q E (G.at h tk):=by
 refine iB ?_
 unfold unpackItems
 have sp:aO (model G.p G.w) A (notIterableAtAll (.ref a)) (λb s=>b=false/\s=G.at h tk) E (G.at h tk):=by
  unfold notIterableAtAll
  exact hs.elim (λhs=>aA (iT (T:="tuple") (Ir hs) PySem.F.slot_tuple_iter.lookup (aH ⟨rfl,rfl⟩))) λhs=>aA (iT (T:="list") (wK (s:=G.at h tk) hs) PySem.F.slot_list_iter.lookup (aH ⟨rfl,rfl⟩))
 refine aA (gN sp (λb s p=> ?_) λY Y e=>e)
 rw [p.1,p.2,if_neg cP]
 refine aA (bX (Es hs hh λo S W s0 Y=>aA (bX (Vt W ws.size 0 (G.at (h.push o) tk) _ s0 (bT (eH _)) λvs h' tk' hl hv hs' kp=> ?_))))
 have ev:vs=ws.toList:=Jc λj=>by
  cases e:vs[j]? with
  | some v=>exact (eS.trans (eH j▸hv j v e)).symm
  | none=>exact (Dd (by rw [bH,<-hl];exact List.getElem?_eq_none_iff.mp e)).symm
 rw [if_neg (by rw [hl];exact qG _)]
 refine aA (bX (W.done (G.at h' tk') _ _ (eH ws.size▸hs') λh'' tk'' kp'=> ?_))
 rw [ev]
 exact aH λz=>c h'' tk'' (kept_iter (λb ob x e=>kp' b ob x (kp b ob x e)) z)
theorem Ti {t:Tg} {ts:List Tg} {l:List aE} {r:List (Nm×V)} {P:List aE->Prop} (e:Kr (t::ts) l ρ=some r) (c:∀x xs ρ1,Ul t x ρ=some ρ1->Kr ts xs ρ1=some r->P (x::xs)):P l:=by
 cases l with
 | nil=>exact cC e
 | cons x xs=>exact (bR.mp e).elim λρ1 q=>c x xs ρ1 q.1 q.2
theorem MA (ts:List Tg):∀ {l:List aE} {ρ r:List (Nm×V)},Kr ts l ρ=some r->l.length=ts.length:=by
 induction ts with
 | nil=>
  intro l ρ r e
  cases l with
  | nil=>rfl
  | cons _ _=>exact cC e
 | cons t ts i=>exact λe=>Ti (P:=λl=>l.length=ts.length+1) e λx xs ρ1 Y e=>congrArg (· +1) (i e)
theorem RW {P:List Expr->Prop} {t:Tg} {ts:List Tg} {es:List Expr} (h:BX sc (t::ts) es=true) (c:∀e r,Zk sc t e=true->BX sc ts r=true->P (e::r)):P es:=by
 cases es with
 | nil=>exact lH h
 | cons e r=>exact c e r (cQ h).1 (cQ h).2
noncomputable def Each (es:List Expr) (env:Env):Prop:=assignEach es env=es.map λe=>(false,assign e env)
theorem Mm {r:List Expr} (hp:(view e).1≠0) (i:Each r env):Each (e::r) env:=by
 have q:assignEach (e::r) env=(false,assign e env)::assignEach r env:=by
  cases e<;>first | rfl | exact absurd rfl hp
 exact q.trans (congrArg _ i)
theorem Mj {j:Nat} {f:FE->Bool} (h:tR (j+1) e f=true):(view e).1≠0:=λz=>by rw [beq_iff_eq.mp (cQ h).1] at z;exact nomatch z
theorem Kl {ts:List Tg} (h:Zk sc (.t ts) e=true):tR 16 e (λF=>BX sc ts F.l)=true:=h
theorem BZ {o:Ex} {x:Nm} (h:MG sc (.a o x) e=true):tR 12 e (λF=>decide (F.s=x.str)&&lM sc o F.x)=true:=h
theorem BY {o i:Ex} (h:MG sc (.s o i) e=true):tR 13 e (λF=>isPlain F.y&&lM sc o F.x&&lM sc i F.y)=true:=h
theorem aGe {t:Tg} (h:Zk sc t e=true):(view e).1≠0:=by
 cases t with
 | n x=>exact Mj (j:=13) (show isNm sc 1 x.str e=true from h)
 | t ts=>exact Mj (Kl h)
 | a _ _=>exact lH h
 | s _ _=>exact lH h
theorem LM (ts:List Tg):∀es,BX sc ts es=true->Each es env/\es.length=ts.length:=by
 induction ts with
 | nil=>exact λes h=>cJ.mp h▸⟨rfl,rfl⟩
 | cons t ts i=>exact λes h=>RW (P:=λes=>Each es env/\es.length=ts.length+1) h λe r h1 h2=>⟨Mm (aGe h1) (i r h2).1,congrArg (· +1) (i r h2).2⟩
theorem HG {es:List Expr}:(es.map λe=>(false,assign e env)).findIdx? (·.1)=none:=by
 induction es with
 | nil=>rfl
 | cons e r i=>rw [dX,List.findIdx?_cons,i];rfl
theorem aFt {σ:Wd} (xs:List aE):∀ws:List aG,jM h σ.out xs ws->dZ (Rep G h σ) (xs.map .d) ws:=dR (motive:=λxs=>∀ws:List aG,jM h σ.out xs ws->dZ (Rep G h σ) (xs.map .d) ws) (λY r=>r) (λY Y i Y r=>r.elim λY Y e a b=>e▸dZ.cons a (i _ b)) xs
theorem Fb.of {x:aE} {l:List aE} {σ:Wd} (d:Dt h σ.out x w) (e:Kj x=some l):Fb h σ l w:=(BR e).elim (λg=>Dt.tup (g▸d) |>.imp λY r=>r.imp λY r=>⟨r.1,.inl r.2.1,r.2.2⟩) λg=>LstAt.seq (Dt.lst (g▸d))
theorem JK {l:List aE} {ts:List Expr} {c:Nat} {p:Pos} {Q:Unit->aK->Prop} (hh:A.handled=none) (I:Iv G st k h mu) (b:Fb h ⟨mu,bP k⟩ l w) (ea:Each ts env) (z:l.length=ts.length)
  (q:∀ws h' tk,Iv G st (.vs (l.map .d) ws::k) h' mu->aO (model G.p G.w) A (assignInOrder (ts.map λe=>assign e env) ws) Q E (G.at h' tk)) {tk:Nat}:aO (model G.p G.w) A (assign (.Tuple ts c p) env w) Q E (G.at h tk):=by
 rw [arm_assign_Tuple]
 refine b.elim λa b=>b.elim λws b=>aA (eD ?_)
 unfold unpack
 rw [show assignEach ts env=_ from ea,HG,aI,<-z,<-b.2.2.1.len,bH,b.1]
 refine aA (bX (Hp hh b.2.1 λh' tk kp=> ?_))
 rw [dM]
 exact q _ _ _ ((I.grow kp).vals (aFt _ _ (I.Sr kp b.2.2.1)))
theorem TA (hh:A.handled=none) (t:Tg):∀ (sc:gF) (e:Expr) (k:List It) (ρ:List (Nm×V)) (x:aE) (w:aG),Zk sc t e=true->(∀y∈pB t,aHz G env F y)->Hs G k (.d x) w->RR G A (F ρ::k) (fI (Ul t x ρ)) (assign e env w) (λρ' Y=>F ρ'::k):=by
 refine GJ (M:=λt=>∀ (sc:gF) (e:Expr) (k:List It) (ρ:List (Nm×V)) (x:aE) (w:aG),Zk sc t e=true->(∀y∈pB t,aHz G env F y)->Hs G k (.d x) w->RR G A (F ρ::k) (fI (Ul t x ρ)) (assign e env w) (λρ' Y=>F ρ'::k))
  (N:=λts=>∀ (sc:gF) (es:List Expr) (k:List It) (ρ:List (Nm×V)) (xs:List aE) (ws:List aG),BX sc ts es=true->(∀y∈Hr ts,aHz G env F y)->(∀h σ,(∀i∈k,i.ok G h σ)->jM h σ.out xs ws)->RR G A (F ρ::k) (fI (Kr ts xs ρ)) (assignInOrder (es.map λe=>assign e env) ws) (λρ' Y=>F ρ'::k))
  (λy sc e k ρ x w hc hS H=>Cv (P:=λe=>RR G A (F ρ::k) (fI (Ul (.n y) x ρ)) (assign e env w) (λρ' Y=>F ρ'::k)) hc λpos Y Y st ρ' st' he s E I=>aA (eD ((hS y (.head _) A k ρ (.d x) w H).go he I λY Y I=>I)))
  (λts ih sc e k ρ x w hc hS H st ρ' st' he s E I=> ?_) (λY Y Y Y Y Y Y Y hc=>lH hc) (λY Y Y Y Y Y Y Y hc=>lH hc)
  (λsc es k ρ xs ws hc hS H st ρ' st' he s E I=> ?_) (λt ts i j sc es k ρ xs ws hc hS H st ρ' st' he s E I=> ?_) t
 ·refine iJ (P:=λe=>aO _ A (assign e env w) _ E s) (Kl hc) λT hc=> ?_
  have he:=Ae he
  refine (bR.mp he.1).elim λl q=>Inv.elim I λh tk mu I=> ?_
  have c:=LM (env:=env) ts T.l hc
  exact JK hh I (Fb.of (H h _ λi m=>I.uJ i (.tail _ m)) q.1) c.1 ((MA ts q.2).trans c.2.symm) λws h' tk I=>(ih sc T.l (.vs (l.map .d) ws::k) ρ l ws hc hS λh σ f=>DF l ws (f _ (.head _))).go (by rw [q.2];exact congrArg (λs=>some (ρ',s)) he.2) (Inv.at I.swap) λY Y I=>Inv.sub I Zj
 ·have he:=Ae he
  rw [<-he.2]
  cases xs with
  | cons _ _=>exact cC he.1
  | nil=>
   rw [cJ.mp hc,<-aF he.1]
   exact aH I
 ·have he:=Ae he
  rw [<-he.2]
  revert H
  refine RW (P:=λes=>_->aO _ A (assignInOrder (es.map λe=>assign e env) ws) _ E s) hc λe r h1 h2=>Ti (P:=λxs=>(∀h σ,(∀i∈k,i.ok G h σ)->jM h σ.out xs ws)->_) he.1 λx xs ρ1 e1 e2 H=>Inv.elim I λh tk mu I=> ?_
  refine (H h _ λi m=>I.uJ i (.tail _ m)).elim λw r ew Y Y=> ?_
  rw [ew] at H⊢
  have hd {P:Addr->Prop} {h:Heap} (q:jM h P (x::xs) (w::r)):Dt h P x w/\jM h P xs r:=q.elim λY Y e a b=>by rw [(fR e).1,(fR e).2];exact ⟨a,b⟩
  show aO _ A (do holding r (assign e env w);assignInOrder _ r) _ E _
  exact aA (bX ((i sc e k ρ x w h1 (λy m=>hS y (aL _ m)) λh σ f=>(hd (H h σ f)).1).go (by rw [e1];rfl) (Inv.at I) λY Y I=>(j sc _ k ρ1 xs r h2 (λy m=>hS y (aQ _ m)) λh σ f=>(hd (H h σ f)).2).go (by rw [e2];rfl) I λY Y I=>I))
theorem Ut (a b:List (Nm×V)):∀ρ:List (Nm×V),mL (a++b) ρ=mL b (mL a ρ):=by
 induction a with
 | nil=>exact λY=>rfl
 | cons p a i=>exact λY=>i _
theorem GB {t:Tg} {ts:List Tg} {x:aE} {xs:List aE} {r r':List (Nm×V)} (e:Ul t x ρ=some r) (e':Kr ts xs r=some r'):Kr (t::ts) (x::xs) ρ=some r':=bR.mpr ⟨r,e,e'⟩
theorem CG (t:Tg):∀ (x:aE) (b ρ:List (Nm×V)),sK t x=some b->Ul t x ρ=some (mL b ρ):=
 GJ (M:=λt=>∀ (x:aE) (b ρ:List (Nm×V)),sK t x=some b->Ul t x ρ=some (mL b ρ)) (N:=λts=>∀ (xs:List aE) (b ρ:List (Nm×V)),Ph ts xs=some b->Kr ts xs ρ=some (mL b ρ))
  (λy x b ρ e=>congrArg (λb=>some (mL b ρ)) (aF e)) (λts i x b ρ e=>(bR.mp e).elim λl q=>by rw [Vx q.1];exact i l b ρ q.2) (λY Y Y Y Y e=>cC e) (λY Y Y Y Y e=>cC e)
  (λxs b ρ e=>by
   cases xs with
   | nil=>exact congrArg (λb=>some (mL b ρ)) (aF e)
   | cons _ _=>exact cC e)
  (λt ts i j xs b ρ e=>by
   cases xs with
   | nil=>exact cC e
   | cons x xs=>exact (bR.mp e).elim λa q=>(bO.mp q.2).elim λc q'=>GB (i x a ρ q.1) (q'.2▸Ut a c ρ▸j xs c _ q'.1)) t
structure Fx (G:Gr) (n:Nat) (A:dT) (sc:gF) (env:Env):Prop where
 B:Base G
 R:Rm A n
 F:MK env sc
theorem Fx.cx (C:Fx G n A sc env):Cx G n A sc env ρ (.fr env ρ::k):=⟨C.B,C.R,C.F,JD.fr (.head _)⟩
theorem RX (t:Tg):∀e,Zk sc t e=true->∀y∈pB t,kn sc y.str=1:=
 GJ (M:=λt=>∀e,Zk sc t e=true->∀y∈pB t,kn sc y.str=1) (N:=λts=>∀es,BX sc ts es=true->∀y∈Hr ts,kn sc y.str=1)
  (λx e h y m=>aC.mp m▸Cv (P:=λY=>kn sc x.str=1) h λY k Y=>k) (λts i e h=>iJ (P:=λY=>∀y∈Hr ts,kn sc y.str=1) (Kl h) λF h=>i F.l h) (λY Y Y h=>lH h) (λY Y Y h=>lH h)
  (λY Y=>cB) (λt ts i j es h=>RW (P:=λY=>∀y∈pB t++Hr ts,kn sc y.str=1) h λe r h1 h2 y m=>(aV.mp m).elim (i e h1 y) (j r h2 y)) t
theorem SZ (C:Fx G n A sc env) (S:kT G X n) {t:Tg} (hc:MG sc t e=true) (m:It.v v w∈k):RR G A (.fr env ρ::k) (On X.E t v ρ) (assign e env w) (λρ' Y=> .fr env ρ'::k):=by
 cases t with
 | n x=>exact Cv (P:=λe=>RR G A (.fr env ρ::k) (On X.E (.n x) v ρ) (assign e env w) (λρ' Y=> .fr env ρ'::k)) hc λpos hk Y st ρ' st' he s E I=>aA (eD ((Wl C.F hk A k ρ v w (Hs.of m)).go he I λY Y I=>I))
 | t ts=>
  intro st ρ' st' he s E I
  exact Eb he λx ex he=>(TA (F:= .fr env) C.R.handled (.t ts) sc e k ρ x w hc (λy m=>Wl C.F (RX (.t ts) e hc y m)) (ex▸Hs.of m)).go he I λY Y I=>I
 | a o x=>
  refine iJ (P:=λe=>RR G A (.fr env ρ::k) (On X.E (.a o x) v ρ) (assign e env w) (λρ' Y=> .fr env ρ'::k)) (BZ hc) λF hc st ρ' st' he s E I=> ?_
  have hc:=cQ hc
  show aO _ A (assign (.Attribute F.x F.s F.pos) env w) _ E s
  rw [of_decide_eq_true hc.1,Di]
  exact cE he λov s1 e1 he=>cE he λY s2 e2 he=>aA (bX (S.go hc.2 C.cx e1 I λw1 s I=>aA (eD (aA (bX ((Qt C.B (.head _) (.tail _ (.tail _ m))).go e2 I λY s I=>Do (pureE (P:=λρ' st'=>Inv G st' (.fr env ρ'::k) s) he (Inv.sub I Ij))))))))
 | s o i=>
  refine iJ (P:=λe=>RR G A (.fr env ρ::k) (On X.E (.s o i) v ρ) (assign e env w) (λρ' Y=> .fr env ρ'::k)) (BY hc) λF hc st ρ' st' he s E I=> ?_
  have hc:=cQ hc
  show aO _ A (assign (.Subscript F.x F.y F.pos) env w) _ E s
  rw [arm_assign_Subscript]
  exact cE he λov s1 e1 he=>cE he λiv s2 e2 he=>cE he λY s3 e3 he=>aA (bX (S.go (cQ hc.1).2 C.cx e1 I λw1 s I=>aA (bX (S.go hc.2 C.cx.on e2 I λw2 s I=>aA (eD (aA (bX
   ((DP C.R (.tail _ (.head _)) (.head _) (.tail _ (.tail _ (.tail _ m)))).go e3 I λY s I=>Do (pureE (P:=λρ' st'=>Inv G st' (.fr env ρ'::k) s) he (Inv.sub I (.cons _ Ij)))))))))))
theorem Th {t:Tg} {ts:List Tg} {EV:List (Nm×V)->Ex->M V} {vs:List V} {r:List (Nm×V)} {P:List V->Prop} (e:Kq EV (t::ts) vs ρ st=some (r,st')) (c:∀v vs ρ1 s1,On EV t v ρ st=some (ρ1,s1)->Kq EV ts vs ρ1 s1=some (r,st')->P (v::vs)):P vs:=by
 cases vs with
 | nil=>exact cC e
 | cons v vs=>exact cE e λρ1 s1 e1 e2=>c v vs ρ1 s1 e1 e2
theorem RY {P:List Expr->Prop} {t:Tg} {ts:List Tg} {es:List Expr} (h:Yq sc (t::ts) es=true) (c:∀e r,MG sc t e=true->Yq sc ts r=true->P (e::r)):P es:=by
 cases es with
 | nil=>exact lH h
 | cons e r=>exact c e r (cQ h).1 (cQ h).2
theorem RZ {t:Tg} (h:MG sc t e=true):(view e).1≠0:=by
 cases t with
 | n x=>exact Mj (j:=13) (show isNm sc 1 x.str e=true from h)
 | t ts=>exact Mj (Kl h)
 | a _ _=>exact Mj (BZ h)
 | s _ _=>exact Mj (BY h)
theorem LN (ts:List Tg):∀es,Yq sc ts es=true->Each es env/\es.length=ts.length:=by
 induction ts with
 | nil=>exact λes h=>cJ.mp h▸⟨rfl,rfl⟩
 | cons t ts i=>exact λes h=>RY (P:=λes=>Each es env/\es.length=ts.length+1) h λe r h1 h2=>⟨Mm (RZ h1) (i r h2).1,congrArg (· +1) (i r h2).2⟩
theorem dZ.We {R:α->β->Prop} {x:α} {xs:List α} {y:β} {ys:List β} (r:dZ R (x::xs) (y::ys)):R x y/\dZ R xs ys:=r.elim λY Y e a b=>by rw [(fR e).1,(fR e).2];exact ⟨a,b⟩
theorem aGz (C:Fx G n A sc env) (S:kT G X n) (ts:List Tg):∀ (es:List Expr) (k:List It) (ρ:List (Nm×V)) (vs:List V) (ws:List aG),Yq sc ts es=true->(∀h σ,(∀i∈k,i.ok G h σ)->dZ (Rep G h σ) vs ws)->RR G A (.fr env ρ::k) (Kq X.E ts vs ρ) (assignInOrder (es.map λe=>assign e env) ws) (λρ' Y=> .fr env ρ'::k):=by
 induction ts with
 | nil=>
  intro es k ρ vs ws hc H st ρ' st' he s E I
  rw [cJ.mp hc]
  exact fB he λY he=>pureE (P:=λρ' st'=>aO _ A _ (λY s=>Inv G st' (.fr env ρ'::k) s) E s) he (aH I)
 | cons t ts i=>
  intro es k ρ vs ws hc H st ρ' st' he s E I
  revert H
  refine RY (P:=λes=>_->aO _ A (assignInOrder (es.map λe=>assign e env) ws) _ E s) hc λe r h1 h2=>Th (P:=λvs=>(∀h σ,(∀i∈k,i.ok G h σ)->dZ (Rep G h σ) vs ws)->_) he λv vs ρ1 s1 e1 e2 H=>Inv.elim I λh tk mu I=> ?_
  refine dZ.elim (H h _ λi m=>I.uJ i (.tail _ m)) λw q ew Y Y=> ?_
  rw [ew] at H⊢
  show aO _ A (do holding q (assign e env w);assignInOrder _ q) _ E _
  exact aA (bX ((SZ (k:= .v v w::k) C S h1 (.head _)).go e1 (Inv.at (I.val (.refl h) (H h _ λi m=>I.uJ i (.tail _ m)).We.1).swap) λY Y I=>(i _ k ρ1 vs q h2 λh σ f=>(H h σ f).We.2).go e2 (Inv.sub I Zj) λY Y I=>I))
end
section
variable {α β:Type} {G:Gr} {A:dT} {k:List It} {st st':St} {h h':Heap} {σ:Wd} {mu:List Addr} {v u:V} {w w1 w2 wv:aG} {E:aG->aK->Prop} {s:aK} {P:Addr->Prop}
theorem aLz {i:Int} (r:Dt h P (.int i) w):Calm G A h σ (.d (.int (if i<0 then -i else i))) (call (.builtin "abs") [w]):=rF λtk E Q q=>aU r λt e=>by rw [e];exact call_abs_int λu tk=>q _ tk ⟨u,rfl⟩
theorem aLx {x:aE} {i:Int} (r:Dt h P x w) (e:aBb x=some i):Calm G A h σ (.d (.int i)) (call (.type "int") [w]):=rF λtk E Q q=>by
 cases x with
 | int j=>exact aU r λt er=>by rw [er];exact call_int_int (q _ _ ⟨t,by rw [aF e]⟩)
 | bool b=>
  rw [show w= .bool b from r]
  exact call_int_bool (q _ _ ⟨_,by rw [<-aF e]⟩)
 | _=>exact cC e
theorem Tp {a:Addr} {o:Obj} {xs:Array aG} {k:Nat} {Q:Option aG->aK->Prop} (hx:s.heap.get? a=some o) (hc:o.cls= .type "tuple") (hdat:o.data= .seq xs k) (hd:o.dict=none) (hA:A.handled=none)
  (hq:∀h' tk,Sub s.heap h'->Q none {s with heap:=h',toks:=tk}):aO (model G.p G.w) A (getAttr? (.ref a) "keys") Q E s:=by
 obtain ⟨c,dct,dat,sl⟩:=o
 simp only at hc hdat hd
 subst hc hdat hd
 obtain ⟨hp,g,d,tk,os⟩:=s
 have hT:∀tk',(⟨hp,g,d,tk',os⟩:aK).TypeIs (.ref a) "tuple":=λY=>⟨_,hx,rfl⟩
 have f1:=sub_AttributeError
 have f3:=mK.lookup
 have f4:=mK.bind (.ref a)
 have f5:=am_tuple_getattr_none
 have hmiss:typeLookup (.type "tuple") "keys"=pure none:=am_miss_of_fast (by decide+kernel)
 unfold getAttr? getAttrBy? getAttrBy
 repeat (any_goals (first | assumption | exact hT _ | ((with_reducible show aO _ _ (call (yT "tuple.__getattribute__") _ _) _ _ _);refine call_meets mK (hT _) am_entry_tuple_getattribute (PySem.F.args_tuple_getattribute_2 _ _) (meets_getattribute_miss_tuple a xs k sl _ _ hmiss (by decide+kernel) (by decide+kernel)) ⟨hx,hA,λh' tk' e hx'=> ?_⟩) | wp_step))
 obtain ⟨t',u',he⟩:=hx'.there
 show aO _ _ (getattributeRaised _ _ _ _ _ _ _) _ _ _
 unfold getattributeRaised
 have hTe:∀tk',(⟨h',g,d,tk',os⟩:aK).TypeIs (.ref e) "AttributeError":=λY=>⟨_,he,rfl⟩
 repeat (any_goals (first | assumption | exact hTe _ | wp_step))
 exact hq _ _ hx'.keeps
theorem So:entryFor table "dict.update.loop"=some oU:=entryFor_of_tree (by kernel_rfl)
noncomputable def TR (h:Heap) (v:aG) (x:Int×aG):Prop:=∃t o arr m kt,v= .ref t/\h.get? t=some o/\o.cls= .type "tuple"/\o.data= .seq arr m/\arr.toList=[.int x.1 kt,x.2]
noncomputable def aPe (h:Heap) (P:Addr->Prop) (p:Int×V) (q:Int×aG):Prop:=p.1=q.1/\∃y,p.2= .d y/\Dt h P y q.2
theorem pairs_at (l:List aE):∀ (kvs:List (Int×V)) (ws:List aG),pairsOf l=some kvs->jM h P l ws->∃xs:List (Int×aG),dZ (aPe h P) kvs xs/\dZ (TR h) ws xs:=by
 induction l with
 | nil=>exact λkvs ws e d=>⟨[],by rw [<-aF e];rfl,by rw [show ws=[] from d];rfl⟩
 | cons p l i=>
  intro kvs ws e d
  refine (bR.mp e).elim λkv q=>(bO.mp q.2).elim λr q2=>d.elim λw ws' ew d1 d2=>(i r ws' q2.1 d2).elim λxs ih=>
   (bR.mp q.1).elim λt q3=>(bR.mp q3.2).elim λpr q4=>(bO.mp q4.2).elim λkey q5=> ?_
  have et:=Vx q3.1
  rw [twoE q4.1,Kk q5.1] at et
  rw [et] at d1
  refine Mr.elim d1 λa vs z ea sq dd=>sq.elim λo n Y g c dt Y=>jM.elim dd λwk r1 e1 dk dd=>jM.elim dd λwy r2 e2 dy dd=>aU dk λkt ek=> ?_
  rw [<-q2.2,<-q5.2,ew]
  exact ⟨(key,wy)::xs,dZ.cons ⟨rfl,_,rfl,dy⟩ ih.1,dZ.cons ⟨a,o,vs,n,kt,ea,g,c,dt,by rw [e1,e2,ek,show r2=[] from dd]⟩ ih.2⟩
theorem dZ.aPp {R:α->β->Prop} {a:α} {b:β} (xs:List α):∀ (ys:List β) (i:Nat),dZ R xs ys->xs[i]? =some a->ys[i]? =some b->R a b:=by
 induction xs with
 | nil=>exact λY i Y e=>cC (Ja.symm.trans e)
 | cons x xs ih=>
  intro ys i r e e'
  refine r.elim λy q ey a1 a2=> ?_
  rw [ey] at e'
  cases i with
  | zero=>exact aF e▸aF e'▸a1
  | succ i=>exact ih q i a2 e e'
theorem stored_new {xs:List (Int×aG)} {i:Nat} {x:Int×aG} (hn:(xs.map (·.1)).Nodup) (hx:xs[i]? =some x):stored (xs.take i) x.1 x.2=xs.take (i+1):=by
 have h1:xs.take (i+1)=xs.take i++[x]:=by rw [rT,hx];rfl
 have h2:(xs.take i).any (λkv=>kv.1=x.1)=false:=by
  refine yF.mpr λy hy hh=> ?_
  have hnd:((xs.take (i+1)).map (·.1)).Nodup:=hn.sublist ((Iz _ _).map _)
  rw [h1,cS,bB] at hnd
  exact hnd.2.2 y.1 (aT.mpr ⟨y,hy,rfl⟩) x.1 (.head _) (of_decide_eq_true hh)
 unfold stored
 rw [h2,h1]
 rfl
theorem Pf {a:Addr} {Kd:Type} [DecidableEq Kd] {knd:KeyKind G.p G.w Kd} {xs:List (Kd×aG)} (d:h.DictOf knd a xs) (e:∀o,h.get? a=some o->h'.get? a=some o):h'.DictOf knd a xs:=d.elim λo q=>q.elim λes q=>q.elim λep q=>⟨o,es,ep,e o q.1,q.2⟩
theorem LD {D I:Addr} {fp:List Addr} {ws:Array aG} {S:Nat->Heap->Prop} (W:Un G.p G.w A.in1 I fp [I] ws.size (λi v=>ws[i]? =some v) S) {xs:List (Int×aG)} (hn:(xs.map (·.1)).Nodup) (hl:xs.length=ws.size) (hsz:ws.size<=sizeLine) (hDf:D∉fp) (hDI:D≠I)
  {hB:Heap} (hP:dZ (TR hB) ws.toList xs) (hold:∀i t:Nat,ws[i]? =some (.ref t)->t≠D/\t≠I) {R:wJ->aK->Prop}
  (c:∀h' tk,h'.DictOf (intKind G.p G.w) D xs->cU [D,I] hB h'->R (.ok (.ret .none)) (G.at h' tk)):
  ∀ (m i:Nat) (h:Heap) (tk:Nat),i+m=ws.size->S i h->h.DictOf (intKind G.p G.w) D (xs.take i)->(∀b o,b∉[D,I]->hB.get? b=some o->h.get? b=some o)->hB.objs.size<=h.objs.size->
  codeAny (model G.p G.w) A (.builtin "dict.update.loop" ⟨[.ref D,.ref I,rawInt i,.none],[]⟩) R (G.at h tk):=by
 have kI {b:Addr} (x:b∉[D,I]):b∉[I]:=λm=>x (.tail _ m)
 have dI:D∉[I]:=λm=>hDI (aC.mp m)
 intro m
 induction m with
 | zero=>
  intro i h tk him hsx hd hkp z
  have him:i=ws.size:=him
  rw [him] at hsx hd⊢
  refine kD So ?_
  rw [iD (by decide+kernel)]
  unfold oU
  show aO _ _ (pyNext (.ref I)>>=_) _ _ _
  refine aA (iB (W.done (G.at h tk) _ _ hsx λh' tk' kp z'=> ?_))
  rw [kO (bT hl)] at hd
  show aO _ _ (Builtin.Dict.addKeywords D []>>=_) _ _ _
  exact aA (aH (aH (c h' tk' (Pf hd λo=>kp _ _ dI) ⟨λb o x e=>kp b o (kI x) (hkp b o x e),aB z z'⟩)))
 | succ m ih=>
  intro i h tk him hsx hd hkp z
  have hin:i<ws.size:=him▸gM (jN m)
  refine kD So ?_
  rw [iD (by decide+kernel)]
  unfold oU
  show aO _ _ (pyNext (.ref I)>>=_) _ _ _
  refine aA (iB (W.item i (G.at h tk) _ _ hin hsx λv h1 tk1 hPv hsx1 kp z'=> ?_))
  have hx:∃x,xs[i]? =some x:=⟨_,bZ (hl▸hin)⟩
  refine hx.elim λx hx=> ?_
  refine (dZ.aPp _ _ i hP (eS.trans hPv) hx).elim λt q=>q.elim λo q=>q.elim λarr q=>q.elim λm' q=>q.elim λkt q=> ?_
  have nt:=hold i t (q.1▸hPv)
  have nt':t∉[D,I]:=λm=>(aJ.mp m).elim nt.1 λm=>nt.2 (aC.mp m)
  have g1':h1.get? t=some o:=kp _ _ (kI nt') (hkp _ _ nt' q.2.1)
  have hd1:=Pf hd λo=>kp _ _ dI
  rw [q.1]
  dsimp only
  refine aA (bX (aA (wpAny_tryCatch ?_)))
  unfold Builtin.Dict.pairItems
  refine aA (rJ (T:="tuple") ⟨o,g1',q.2.2.1⟩ ?_)
  rw [if_pos (by decide)]
  refine aA (jR g1' q.2.2.2.1 (aH ?_))
  show aO _ _ (match arr.toList with | [k,v]=>_ | l=>_) _ _ _
  rw [q.2.2.2.2]
  refine bX (wpAny_dictSet_pairs (s:=G.at h1 tk1) (knd:=intKind G.p G.w) (k:=x.1) (key:= .int x.1 kt) (qO ..) hd1 (λh2 hd2 sb2=> ?_) (by rw [zU];exact aB (gT _ _) (hl▸hsz)))
  rw [stored_new hn hx] at hd2
  exact aH ⟨tN (by decide+kernel) _,ih (i+1) h2 (tk1+1) ((lD i 1 m).trans him) (W.frame _ _ _ hsx1 λb hb o e=>(sb2.2 _ λe=>hDf (e▸hb)).trans e) hd2 (λb o x e=>(sb2.2 _ λe=>x (e▸ .head _)).trans (kp b o (kI x) (hkp b o x e))) (aB z (aB z' (bT sb2.1.symm)))⟩
theorem aGl {l:List aE} {kvs:List (Int×V)} (hh:A.handled=none) (I:Iv G st k h mu) (r:Dt h (Wd.out ⟨mu,bP k⟩) (.tuple l) w) (hp:pairsOf l=some kvs) (hn:(kvs.map (·.1)).Nodup):Mt G A k h (call (.type "dict") [w]) (.ref st.next) (st.add (.di kvs)):=λtk E Q c=>
 Mr.elim r λt ws z er sq d=>sq.elim λo n Y g1 g2 g3 g4=>(pairs_at l kvs _ hp d).elim λxs X=>by
 have hB:=g4 rfl
 have keys:xs.map (·.1)=kvs.map (·.1):=by
  have f:∀ (kvs:List (Int×V)) (xs:List (Int×aG)),dZ (aPe h (Wd.out ⟨mu,bP k⟩)) kvs xs->xs.map (·.1)=kvs.map (·.1):=λkvs=>dR (motive:=λkvs=>∀xs:List (Int×aG),dZ (aPe h (Wd.out ⟨mu,bP k⟩)) kvs xs->xs.map (·.1)=kvs.map (·.1)) (λxs e=>by rw [show xs=[] from e];rfl)
   (λp kvs i xs e=>e.elim λy q e a b=>by rw [e,dX,dX,i q b,a.1]) kvs
  exact f kvs xs X.1
 have hlen:xs.length=ws.size:=X.2.len.trans bH
 have hz:ws.size=l.length:=bH.symm.trans d.len
 have zl:=lX
 have hnew:(h.push {cls:= .type "dict",data:= .dict #[]}).DictOf (intKind G.p G.w) h.objs.size []:=Cf h
 have g1':(h.push {cls:= .type "dict",data:= .dict #[]}).get? t=some o:=bI _ g1
 rw [er]
 refine callType_codes (s:=G.at h tk) (Q₁:=λobj s₁=>obj= .ref h.objs.size/\s₁=G.at (h.push {cls:= .type "dict",data:= .dict #[]}) tk) PySem.F.kt_called_dict (PySem.F.kt_typeCall_dict_1 _) PySem.F.entry_dict_init (kt_code_dict_new _ ⟨rfl,rfl⟩) ?_
 rintro obj s₁ ⟨rfl,rfl⟩
 refine ⟨hnew.typeIs,PySem.F.args_dict_init_2 _ _,?_⟩
 unfold Builtin.«dict.__init__»
 refine aA ?_
 unfold Builtin.Dict.selfAndRest
 refine aA (Cy hnew.typeIs ?_)
 show aO _ _ (pure (h.objs.size,[pM t])) _ _ _
 refine aH ?_
 show aO _ _ (zQ "dict.__init__" h.objs.size (.ref t) [] .none) _ _ _
 unfold zQ
 refine aA (rJ (T:="tuple") ⟨o,g1',g2⟩ ?_)
 rw [if_pos (by decide)]
 refine aA (Tp (s:=G.at (h.push {cls:= .type "dict",data:= .dict #[]}) tk) g1' g2 g3 hB hh λh4 tk4 kp4=> ?_)
 rw [if_pos (by rfl)]
 have hD4:=Pf hnew λo=>kp4 _ o
 have hDlt:h.objs.size<h4.objs.size:=hD4.elim λo q=>q.elim λes q=>q.elim λep q=>dG q.1
 have lt {b:Addr} {ob:Obj} (e:h.get? b=some ob):b≠h.objs.size/\b≠h4.objs.size:=⟨fX (dG e),fX (lS (dG e) hDlt)⟩
 have lt' {b:Addr} {ob:Obj} (e:h.get? b=some ob):b∉[h.objs.size,h4.objs.size]:=λm=>(aJ.mp m).elim (lt e).1 λm=>(lt e).2 (aC.mp m)
 refine aA (nE (aA (Es (h:=h4) (ws:=ws) (.inl ⟨o,kp4 _ _ g1',g2,n,g3⟩) hh λoi S W s0 hfp=>aH ⟨tN (by decide+kernel) _,?_⟩)))
 have upB:Sub h (h4.push oi):=λb ob e=>bI _ (kp4 _ _ (bI _ e))
 refine LD (hB:=h4.push oi) W (keys▸hn) hlen (hz▸aB z (aB (bJ _) zl)) (λhm=> ?_) (fX hDlt) (dZ.mono (λv x q=> ?_) _ _ X.2) (λi t' e=> ?_) (λh' tk hd kp=>⟨rfl,?_⟩) ws.size 0 (h4.push oi) tk4 (eH _) s0 (Pf hD4 λo=>bI _) (λb ob Y e=>e) (bM _)
 ·exact (aJ.mp hm).elim (fX hDlt) λm=>(lt g1).1 (aC.mp m).symm
 ·exact q.elim λt q=>q.elim λo q=>q.elim λarr q=>q.elim λm' q=>q.elim λkt q=>⟨t,o,arr,m',kt,q.1,upB _ _ q.2.1,q.2.2⟩
 ·have hx:xs[i]? =some (xs[i]'(hlen▸(Array.getElem?_eq_some_iff.mp e).1)):=bZ _
  exact (dZ.aPp _ _ i X.2 (eS.trans e) hx).elim λt q=>q.elim λo q=>q.elim λarr q=>q.elim λm' q=>q.elim λkt q=>Gp q.1▸lt q.2.1
 ·have kk:cU [] h h':=⟨λb ob Y e=>kp.1 b ob (lt' e) (upB b ob e),aB (iN hDlt) (aB (by rw [cO];exact bJ _) kp.2)⟩
  have q:=I.new (a:=h.objs.size) (o:= .di kvs) kk (bM _) (hd.elim λo q=>q.elim λes q=>q.elim λep q=>dG q.1) λK=>⟨xs,hd,dZ.mono (λp q t=>⟨t.1,aU t.2 λy e=>by rw [e.1];exact K.dt e.2⟩) _ _ X.1,by rw [<-X.1.len,hlen,hz];exact z⟩
  exact c _ _ _ _ (q.1.val (.refl _) ⟨_,q.2,rfl⟩)
end
section
variable {α β:Type} {G:Gr} {A:dT} {k:List It} {st st':St} {h h':Heap} {σ:Wd} {mu:List Addr} {v u:V} {w w1 w2 wv:aG} {E:aG->aK->Prop} {s:aK} {P:Addr->Prop} {ρ:List (Nm×V)} {env:Env} {sc:gF} {X:Dg} {n:Nat} {e:Expr} {pos:Pos} {es:List Ex} {l:List Expr}
noncomputable def Zg (G:Gr):Prop:=∀A n k st h mu w (is:List Int),Rm A n->Iv G st k h mu->Dt h (Wd.out ⟨mu,bP k⟩) (.list (is.map .int)) w->is.length<=4->(is.all λi=>decide (0<=i/\i<64))=true->∀tk E (Q:aG->aK->Prop),(∀w h' tk',cU [] h h'->Rep G h' ⟨mu,bP k⟩ (.d (.list ((hJ (dedup is)).map .int))) w->Q w (G.at h' tk'))->
 aO (model G.p G.w) A (call (.type "set") [w]) (λw' s'=>aO (model G.p G.w) A (call (.builtin "sorted") [w']) Q E s') E (G.at h tk)
noncomputable def Sz (b:Bt):aG:=match b with
 | .len=> .builtin "len" | .abs=> .builtin "abs" | .int=> .type "int" | .min=> .builtin "min" | .max=> .builtin "max" | .DZ=> .builtin "min" | .Oi=> .builtin "max" | .sum=> .builtin "sum" | .sorted=> .builtin "sorted" | .oM=> .builtin "sorted"
 | .tuple=> .type "tuple" | .dict=> .type "dict" | .range=> .type "range" | .Bl=> .type "range" | .sG=> .builtin "isinstance" | .is_bool=> .builtin "isinstance" | .Eu=> .builtin "isinstance"
noncomputable def special (b:Bt):Bool:=match b with
 | .oM=>true | .sG=>true | .is_bool=>true | .Eu=>true
 | _=>false
theorem Mt.cm {t:Sem aG} (I:Iv G st k h mu) (c:Cm G A st h ⟨mu,bP k⟩ t v st'):Mt G A k h t v st':=c.1▸Mt.calm I c.2
theorem ZE {b:Bt} (B:Base G) (R:Rm A n) (I:Iv G st k h mu) (q:Rep G h ⟨mu,bP k⟩ v w) (e:aGo b v st=some (u,st')) (hb:special b=false):Mt G A k h (call (Sz b) [w]) u st':=by
 have Vq {t:Sem aG} {x:V} {st1:St} (e:(pure x:M V) st1=some (u,st')) (c:Mt G A k h t x st1):Mt G A k h t u st':=vE (P:=Mt G A k h t) e c
 have hh:=R.handled
 have best {c:M V} {f:List Int->Option Int} (e:(ofD Kj v>>=λl=>fI (intsOf l)>>=λis=>fI (f is)>>=λm=>(pure (.d (.int m)):M V)) st=some (u,st')) (t:Sem aG) (g:∀is m,Fb h ⟨mu,bP k⟩ (is.map .int) w->f is=some m->Calm G A h ⟨mu,bP k⟩ (.d (.int m)) t):Mt G A k h t u st':=Jw e λx l ev el e=>mU e λis ei e=>mU e λm em e=>Vq e (Mt.calm I (g is m (pK l is ei▸Fb.of (q.d' ev) el) em))
 cases b with
 | len=>exact NO I q e λl b e=>Vq e (Mt.calm I (aLw b))
 | abs=>exact pA e λi ei e=>Vq e (Mt.calm I (aLz (q.d' ei)))
 | int=>exact Jw e λx i ev ei e=>Vq e (Mt.calm I (aLx (q.d' ev) ei))
 | DZ=>exact best (c:=fail) e _ λis m b em=>(SK hh b).2 em
 | Oi=>exact best (c:=fail) e _ λis m b em=>(SK hh b).1 em
 | sum=>exact Jw e λx l ev el e=>mU e λis ei e=>Vq e (Mt.calm I (aLv hh (pK l is ei▸LstAt.seq (Dt.lst (BS el▸q.d' ev)))))
 | sorted=>
  cases v with
  | d x=>exact mU e λl el e=>fB e λg e=>mU e λr er e=>Vq e (Mt.calm I (Yu (R.un (by decide)) I (Fb.of q el) (of_decide_eq_true g) er))
  | ref r=>exact xI e λo kvs m g e=>fB e λg' e=>Vq e (Mt.calm I (LR hh B I q (WG g▸m) (of_decide_eq_true g')))
  | _=>exact cC e
 | tuple=>exact Mt.cm I (YZ I q e)
 | dict=>exact Jw e λx l ev el e=>mU e λkvs ep e=>fB e λg e=>WJ (P:=Mt G A k h (call (.type "dict") [w])) e (aGl hh I (Vx el▸q.d' ev) ep (of_decide_eq_true g))
 | Bl=>exact pA e λi ei e=>Vq e (Mt.calm I (SJ I (q.d' ei)))
 | oM=>exact lH hb.symm
 | sG=>exact lH hb.symm
 | is_bool=>exact lH hb.symm
 | Eu=>exact lH hb.symm
 | _=>exact cC e
theorem ZD {b:Bt} {v1 v2:V} (R:Rm A n) (I:Iv G st k h mu) (q1:Rep G h ⟨mu,bP k⟩ v1 w1) (q2:Rep G h ⟨mu,bP k⟩ v2 w2) (e:aGn b v1 v2 st=some (u,st')):Mt G A k h (call (Sz b) [w1,w2]) u st':=by
 have Vq {t:Sem aG} {x:V} {st1:St} (e:(pure x:M V) st1=some (u,st')) (c:Mt G A k h t x st1):Mt G A k h t u st':=vE (P:=Mt G A k h t) e c
 cases b with
 | min=>exact IB e λi j e1 e2 e=>Vq e (Mt.calm I (aGi R.handled (q1.d' e1) (q2.d' e2)))
 | max=>exact IB e λi j e1 e2 e=>Vq e (Mt.calm I (aGj R.handled (q1.d' e1) (q2.d' e2)))
 | range=>exact pA e λi e1 e=>pA e λj e2 e=>Vq e (Mt.calm I (ZB I (q1.d' e1) (q2.d' e2)))
 | _=>exact cC e
theorem FF {b:Bt} {vs:List V} {ws:List aG} (B:Base G) (R:Rm A n) (I:Iv G st k h mu) (q:dZ (Rep G h ⟨mu,bP k⟩) vs ws) (e:builtin b vs st=some (u,st')) (hb:special b=false):Mt G A k h (call (Sz b) ws) u st':=by
 cases vs with
 | nil=>exact cC e
 | cons v r=>
 cases r with
 | nil=>exact (all1 q).elim λw p=>by rw [p.1];exact ZE B R I p.2 e hb
 | cons v2 r=>
 cases r with
 | nil=>exact (all2 q).elim λw p=>p.elim λw2 p=>by rw [p.1];exact ZD R I p.2.1 p.2.2 e
 | cons _ _=>exact cC e
theorem Ec {f:aG} {vs:List V} {Q:Args->aK->Prop} (S:kT G X n) (C:Cx G n A sc env ρ k) (hc:Fy sc es l=true) (he:Yd (X.E ρ) es st=some (vs,st')) (I:Inv G st k s) (c:∀ws s',Inv G st' (.vs vs ws::k) s'->Q ⟨ws,[]⟩ s'):
  aO (model G.p G.w) A (evalArgs f true (backTo pos (starEach l env)) []) Q E s:=by
 have q:=(aCw S es l k hc C).go (E:=E) (Q:=λws s'=>Q ⟨ws,[]⟩ s') he I c
 rw [(kW es l hc).1]
 revert q
 cases es with
 | nil=>
  rw [cJ.mp hc]
  exact λY=>PySem.evalArgs_none (pureE (P:=λvs st'=>(∀ws s',Inv G st' (.vs vs ws::k) s'->Q ⟨ws,[]⟩ s')->Q ⟨[],[]⟩ s) he (λc=>c [] s (Inv.elim I λY Y Y I=>Inv.at (I.vals rfl))) c)
 | cons x xs=>
  exact Ug (P:=λl=>aO _ A (spliced (starEach l env)) _ E s->aO _ A (evalArgs f true (starEach l env) []) Q E s) hc λe r hp Y Y q=>by
   rw [rY hp] at q⊢
   exact oR q
theorem Jy {F:FE} (h:F.kw.isEmpty=true):F.kw=[]:=cJ.mp h
theorem Aq {nm:String} {f:Expr} {Q:aG->aK->Prop} {tk:Nat} (hg:xH sc nm f=true) (C:Cx G n A sc env ρ k) (I:Iv G st k h mu) (hv:G.mg (aZ nm)=none/\G.mb (aZ nm)=some w) (c:aO (model G.p G.w) A (callWith pos w [] (backTo pos (starEach l env)) []) Q E (G.at h tk)):
  aO (model G.p G.w) A (eval (.Call f l [] pos) env) Q E (G.at h tk):=Cv (P:=λf=>aO _ A (eval (.Call f l [] pos) env) Q E (G.at h tk)) hg λp hk hd=>by
 rw [vF]
 exact aA (Ak C.B C.F I hk hd (.inr hv) c)
theorem EO {nm:String} {f:Expr} {Q:aG->aK->Prop} {tk:Nat} (hg:xH sc nm f=true) (C:Cx G n A sc env ρ k) (I:Iv G st k h mu) (hv:G.mg (aZ nm)=none/\G.mb (aZ nm)=some w) (c:Q w (G.at h tk)):aO (model G.p G.w) A (eval f env) Q E (G.at h tk):=Cv (P:=λf=>aO _ A (eval f env) Q E (G.at h tk)) hg λp hk hd=>Ak C.B C.F I hk hd (.inr hv) c
theorem IV (B:Base G) (b:Bt):G.mg (aZ (FG b))=none/\G.mb (aZ (FG b))=some (Sz b):=by
 cases b<;>first
  | exact ⟨B.Ta _ (by decide),B.aGm _ (by decide)⟩
  | exact ⟨B.Ta _ (by decide),B.FI _ (by decide)⟩
theorem ZC {b:Bt} {args:List (Bool×Sem aG)} {Q:aG->aK->Prop} (hpl:args.any (·.1)=false) (c:aO (model G.p G.w) A (evalArgs (Sz b) true args []) (λa s'=>aO (model G.p G.w) A (call (Sz b) ([]++a.pos) a.kw) Q E s') E s):aO (model G.p G.w) A (callWith pos (Sz b) [] args []) Q E s:=by
 cases b with
 | int=>exact iR hpl c
 | tuple=>exact iR hpl c
 | dict=>exact iR hpl c
 | range=>exact iR hpl c
 | Bl=>exact iR hpl c
 | _=>exact nG hpl c
theorem Zn (S:kT G X n) (C:Cx G n A sc env ρ k) {b:Bt} (hc:lM sc (.blt b es) e=true) (hb:special b=false):RR G A k (hY X ρ (.blt b es)) (eval e env) (Vl k):=xK hc λF hc=>by
 intro st v st' he s E I
 have hc:=cQ hc
 show aO _ A (eval (.Call F.x F.l F.kw F.pos) env) _ E s
 rw [Jy hc.1]
 have h2:=cQ hc.2
 have h3:Fy sc es F.l=true:=by
  revert hb
  cases b<;>first | exact λY=>h2.2 | exact λh=>lH h.symm
 exact Inv.elim I λh tk mu I=>cE he λvs s1 e1 he=>Aq h2.1 C I (IV C.B b) (ZC (by rw [(kW es F.l h3).1];exact (kW (pos:=F.pos) es F.l h3).2) (Ec S C h3 e1 (Inv.at I) λws s' I=>Inv.elim I λh tk mu I=>
  FF C.B C.R (I.sub Ij) (I.uJ _ (.head _)) he hb tk E (λw s=>Inv G st' (Vl k v w) s) λw h' tk' mu' I=>Inv.at I))
theorem aOv {P:List Ex->Prop} (h:Fy sc es [e]=true) (c:∀x,isPlain e=true->lM sc x e=true->P [x]):P es:=by
 cases es with
 | nil=>exact lH h
 | cons x r=>
  cases r with
  | nil=>exact c x (cQ (cQ h).1).1 (cQ (cQ h).1).2
  | cons _ _=>exact lH (cQ h).2
theorem CJ (hp:isPlain e=true) (r:List Expr):backTo pos (starEach (e::r) env)=(false,eval e env)::backTo pos (starEach r env):=by rw [rY hp];rfl
theorem aOt {x:Ex} {F:Ex->M V} {f:List V->M α} {a:α} {Pr:Prop} (he:(Yd F [x]>>=f) st=some (a,st')) (c:∀v s1,F x st=some (v,s1)->f [v] s1=some (a,st')->Pr):Pr:=cE he λvs s1 e1 he=>cE e1 λv s2 e2 e1=>c v s2 e2 (pureE (P:=λvs s1=>f vs s1=some (a,st')->f [v] s2=some (a,st')) e1 (λhe=>he) he)
theorem MQ (S:kT G X n) (C:Cx G n A sc env ρ k) {b:Bt} {T:String} {j:Nat} (hT:(j=0/\T="tuple")\/(j=1/\T="bool")\/(j=2/\T="int")) (hb:G.mg (aZ T)=none/\G.mb (aZ T)=some (.type T)) (hc:tR 8 e (λF=>F.kw.isEmpty&&(xH sc "isinstance" F.x&&Af (two F.l) λp=>xH sc T p.2&&Fy sc es [p.1]))=true):
  RR G A k (Yd (X.E ρ) es>>=λvs=>fI (one vs)>>=λv=>ofD (Rv j) v>>=nT) (eval e env) (Vl k):=xK hc λF hc=>by
 intro st v st' he s E I
 have hc:=cQ hc
 have h2:=cQ hc.2
 show aO _ A (eval (.Call F.x F.l F.kw F.pos) env) _ E s
 rw [Jy hc.1]
 refine Co h2.2 λp ep h3=> ?_
 rw [twoE ep]
 have h3:=cQ h3
 refine Inv.elim I λh tk mu I=> ?_
 revert he
 refine aOv (P:=λes=>(Yd (X.E ρ) es>>=λvs=>fI (one vs)>>=λv=>ofD (Rv j) v>>=nT) st=some (v,st')->_) h3.2 λx hp hx he=>aOt he λv1 s1 e1 he=> ?_
 refine Aq h2.1 C I ⟨C.B.Ta _ (by decide),C.B.aGm "isinstance" (by decide)⟩ ?_
 rw [CJ hp]
 have hn:isPlain p.2=true:=Cv (P:=λe=>isPlain e=true) h3.1 λY Y Y=>rfl
 rw [CJ hn]
 refine nG rfl (oR (rR (S.go hx C e1 (Inv.at I) λw1 s I=>Inv.elim I λh tk mu I=>rR (EO h3.1 C.on I hb (Dm ?_)))))
 refine mU he λv2 e2 he=>Jw he λy t ev et he=>pureE (P:=λv st'=>aO _ A _ (λw s=>Inv G st' (Vl k v w) s) E (G.at h tk)) he ?_
 have q:=I.has (v:=v1) (.head _)
 rw [aF e2] at q
 exact aGk hT (q.d' ev) et tk E _ λw h' tk' kp r=>Inv.sub (Inv.at (I.val kp r)) Zj
theorem JG (H:Zg G) (S:kT G X n) (C:Cx G n A sc env ρ k) (hc:lM sc (.blt .oM es) e=true):RR G A k (hY X ρ (.blt .oM es)) (eval e env) (Vl k):=xK hc λF hc=>by
 intro st v st' he s E I
 have hc:=cQ hc
 have h2:=cQ hc.2
 show aO _ A (eval (.Call F.x F.l F.kw F.pos) env) _ E s
 rw [Jy hc.1]
 refine Co h2.2 λy ey h3=> ?_
 rw [KH ey]
 refine Inv.elim I λh tk mu I=>Aq h2.1 C I (IV C.B .oM) ?_
 refine iJ (P:=λy=>aO _ A (callWith F.pos _ [] (backTo F.pos (starEach [y] env)) []) _ E (G.at h tk)) h3 λF' h3=> ?_
 show aO _ A (callWith F.pos _ [] (backTo F.pos (starEach [.Call F'.x F'.l F'.kw F'.pos] env)) []) _ E (G.at h tk)
 have h3:=cQ h3
 have h4:=cQ h3.1
 rw [Jy h4.1,CJ rfl]
 refine nG rfl (oR (rR (Aq h4.2 C I ⟨C.B.Ta _ (by decide),C.B.FI "set" (by decide)⟩ ?_)))
 refine cE he λvs s1 e1 he=>iR (by rw [(kW es F'.l h3.2).1];exact (kW (pos:=F'.pos) es F'.l h3.2).2) (Ec S C h3.2 e1 (Inv.at I) λws s I=>Inv.elim I λh tk mu I=> ?_)
 have q:dZ (Rep G h ⟨mu,bP k⟩) vs ws:=I.uJ _ (.head _)
 cases vs with
 | nil=>exact cC he
 | cons v1 r=>
 cases r with
 | cons v2 r=>cases r with
  | nil=>exact cC he
  | cons _ _=>exact cC he
 | nil=>
 refine (all1 q).elim λw1 p=>Jw he λx l ev el he=>mU he λis ei he=>fB he λg he=> ?_
 have g:=cQ g
 have em:=pK l is ei
 have z:is.length<=4:=by have:=of_decide_eq_true g.1;rwa [em,aI] at this
 refine pureE (P:=λv st'=>aO (model G.p G.w) A (call (.type "set") ([]++ws) []) (λw s=>aO (model G.p G.w) A (spliced []) (λvs s=>aO (model G.p G.w) A (call (.builtin "sorted") ([]++(w::vs)) []) (λw s=>Inv G st' (Vl k v w) s) E s) E s) E (G.at h tk)) he ?_
 rw [p.1]
 exact gN (H A n k s1 h mu w1 is C.R (I.sub Ij) (em▸BS el▸p.2.d' ev) z g.2 tk E (λw s=>Inv G s1 (Vl k (.d (.list ((hJ (dedup is)).map .int))) w) s) λw h' tk' kp r=>Inv.at ((I.sub Ij).val kp r)) (λw' s' c=>Dm c) λY Y e=>e
end
section
variable {α β:Type} {G:Gr} {A:dT} {k:List It} {st st':St} {h h':Heap} {σ:Wd} {mu:List Addr} {v u:V} {w w1 w2 wv:aG} {E:aG->aK->Prop} {s:aK} {P:Addr->Prop} {ρ:List (Nm×V)} {env:Env} {sc:gF} {X:Dg} {n:Nat} {e:Expr} {pos:Pos} {es:List Ex} {l:List Expr}
noncomputable def aNe (f:Fl) (g:Flow) (k:List It):List It:=match f with
 | .next=>match g with
  | .next=>k
  | _=>[.no]
 | .ret v=>match g with
  | .ret w=> .v v w::k
  | _=>[.no]
noncomputable def CV (G:Gr) (X:Dg) (n:Nat):Prop:=∀sc xs l,EY sc xs l=true->∀A env ρ k,Fx G n A sc env->RR G A (.fr env ρ::k) (X.B xs ρ) (execs l env) (λp g=>aNe p.1 g (.fr env p.2::k))
noncomputable def Yr (names:List (Str×rP)):List Str:=(cellsFrom 0 names []).map (·.1)
noncomputable def aGg (ps ls:List Nm) (body:List Sx) (sc:gF) (bodyS:List Stmt):Bool:=EY sc body bodyS&&decide (Yr sc.names).Nodup&&(sc.names.all λp=>match p.2 with
  | .cell=>(Yr sc.names).contains p.1
  | .free=>false
  | _=>true)&&(ps.all λx=>decide (sc.names.lookup x.str=some .local)||decide (sc.names.lookup x.str=some .cell))&&decide (ps++ls).Nodup&& !sc.isCoroutine&& !sc.isGenerator&&decide (sc.kind= .function)
structure TW (G:Gr) (c:Option Cl) (f:Nm) (fa:Addr) (o:Obj) (fd:wL) (bodyS:List Stmt) (ps ls:List Nm) (body:List Sx):Prop where
 fn:fnOf c f=some (ps,ls,body)
 get:G.h.get? fa=some o
 data:o.data= .func fd
 bd:fd.body= .stmts bodyS
 glob:fd.globals=mainGlobals
 blt:fd.builtins=builtinsNs
 aQo:fd.closure=[]
 code:G.h.CodeRec fd.code fd.qualname
 bind:∀ws:List aG,ws.length=ps.length->bindArgs fd ⟨ws,[]⟩=pure ((ps.map Nm.str).zip ws)
 ck:aGg ps ls body fd.scope bodyS=true
noncomputable def Zc (G:Gr) (X:Dg) (n:Nat):Prop:=∀c f vs st v st',X.C c f vs st=some (v,st')->∀ {fa o fd bodyS ps ls body},TW G c f fa o fd bodyS ps ls body->∀A k ws s (R:wJ->aK->Prop),Rm A n->Inv G st (.vs vs ws::k) s->(∀w s',Inv G st' (Vl k v w) s'->R (.ok (.ret w)) s')->codeAny (model G.p G.w) A (.call (.ref fa) ⟨ws,[]⟩) R s
theorem Rm.deeper {n:Nat} (R:Rm A (n+1)):Rm (A.deeper env) n:=⟨R.handled,by have:=R.depth;show A.depth+1+n<=900;rwa [bL,dQ 1 n],aB (by show A.units+3+20*n+200<=A.units+20*(n+1)+200;rw [vP,bL A.units 3,dQ 3];exact cW (bE (bE (by decide) _) _) _) R.units⟩
theorem Iv.aKr (I:Iv G st k h mu):Iv G st (.mark (st.objs.map (·.1))::k) h mu:=⟨I.base,I.size,I.len,I.nd,I.lo,I.objs,I.keys,λi m=>(aJ.mp m).elim (λe=>by rw [e];exact True.intro) (I.uJ i),I.ME,I.sJ,λl m=>(aJ.mp m).elim (λe=>e▸List.prefix_refl _) (I.mark l)⟩
theorem Iv.left {keys:List Nat} {f:Nm} (hm:∀l∈PE k,l<+:keys) (hr:∀r∈Ii k,r∈keys) (I:Iv G st (.v v w:: .mark keys::k) h mu):Iv G (left f keys.length st) (.v v w::k) h mu:=by
 have sf:keys<+:st.objs.map (·.1):=I.mark keys (.head _)
 have J:=I.sub Zj
 unfold Mine.left
 by_cases q:f= .kC
 ·rw [if_pos q];exact J
 ·rw [if_neg q]
  have ek:keys=(st.objs.take keys.length).map (·.1):=by
   have e:=List.prefix_iff_eq_take.mp sf
   rwa [<-List.map_take] at e
  refine ⟨J.base,J.size,J.len,J.nd,J.lo,λr o m=>J.objs r o (Dr m),((Iz ..).map _).nodup J.keys,J.uJ,J.ME,λr m=> ?_,λl m=> ?_⟩
  ·refine (J.sJ r m).imp λl ml=> ?_
   have mk:r∈(st.objs.take keys.length).map (·.1):=ek▸hr r m
   exact (aT.mp mk).elim λp q=>by
    have q1:(r,p.2)∈st.objs.take keys.length:=q.2▸q.1
    rwa [<-Xu J.keys (Dr q1) ml]
  ·show l<+:(st.objs.take keys.length).map (·.1)
   rw [<-ek]
   exact hm l m
theorem Km {x:Str} (cs:List (Str×Addr)):x∈cs.map (·.1)->(cs.lookup x).isSome=true:=by
 induction cs with
 | nil=>exact λm=>nomatch m
 | cons p cs i=>
  intro m
  rw [pO]
  cases q:x==p.1 with
  | true=>rfl
  | false=>exact i ((aJ.mp m).resolve_left λe=>by rw [beq_iff_eq.mpr e] at q;exact nomatch q)
theorem RU {ps ls:List Nm} {body:List Sx} {bodyS:List Stmt} (hc:aGg ps ls body sc bodyS=true):EY sc body bodyS=true/\(∀n,((cellsFrom n sc.names []).map (·.1)).Nodup)/\(∀n x,sc.names.lookup x=some .cell->((cellsFrom n sc.names []).lookup x).isSome=true)/\(∀x,sc.names.lookup x≠some .free)/\
  (∀x∈ps,sc.names.lookup x.str=some .local\/sc.names.lookup x.str=some .cell)/\(ps++ls).Nodup/\sc.isCoroutine=false/\sc.isGenerator=false/\sc.kind= .function:=by
 have c7:=cQ hc
 have c6:=cQ c7.1
 have c5:=cQ c6.1
 have c4:=cQ c5.1
 have c3:=cQ c4.1
 have c2:=cQ c3.1
 have c1:=cQ c2.1
 have nms (n:Nat):(cellsFrom n sc.names []).map (·.1)=Yr sc.names:=cellsFrom_names sc.names n 0 [] [] rfl
 have each {x:Str} {kd:rP} (e:sc.names.lookup x=some kd):=dH.mp c2.2 _ (eY e)
 exact ⟨c1.1,λn=>nms n▸of_decide_eq_true c1.2,λn x e=>Km _ (nms n▸jA.mp (each e)),λx e=>lH (each e),λx m=>(gY.mp (dH.mp c3.2 x m)).imp of_decide_eq_true of_decide_eq_true,of_decide_eq_true c4.2,oI _ |>.mp c5.2,oI _ |>.mp c6.2,of_decide_eq_true c7.2⟩
theorem Wa {kd:Str->Option rP} {y:Str} (l:List (Str×aG)):∀m:Str->Option aG,y∉l.map (·.1)->bindL kd l m y=m y/\bindC kd l m y=m y:=by
 induction l with
 | nil=>exact λm Y=>⟨rfl,rfl⟩
 | cons p l i=>
  intro m h
  have h1:y≠p.1:=λe=>h (e▸ .head _)
  have h2:y∉l.map (·.1):=λm=>h (.tail _ m)
  show bindL kd l (if kd p.1=some .local then λy=>if y=p.1 then some p.2 else m y else m) y=m y/\bindC kd l (if kd p.1=some .local then m else λy=>if y=p.1 then some p.2 else m y) y=m y
  rw [(i _ h2).1,(i _ h2).2]
  by_cases q:kd p.1=some .local
  ·rw [if_pos q,if_pos q,if_neg h1];exact ⟨rfl,rfl⟩
  ·rw [if_neg q,if_neg q,if_neg h1];exact ⟨rfl,rfl⟩
theorem IW {kd:Str->Option rP} {y:Str} {u:aG} (l:List (Str×aG)):∀m m':Str->Option aG,(l.map (·.1)).Nodup->(y,u)∈l->(kd y=some .local->bindL kd l m y=some u)/\(kd y≠some .local->bindC kd l m' y=some u):=by
 induction l with
 | nil=>exact λm Y Y h=>nomatch h
 | cons p l i=>
  intro m m' hn h
  have hn:=bV.mp hn
  show (_->bindL kd l (if kd p.1=some .local then λy=>if y=p.1 then some p.2 else m y else m) y=some u)/\(_->bindC kd l (if kd p.1=some .local then m' else λy=>if y=p.1 then some p.2 else m' y) y=some u)
  refine (aJ.mp h).elim (λe=> ?_) (i _ _ hn.2)
  rw [<-e] at hn⊢
  exact ⟨λq=>by rw [(Wa l _ hn.1).1,if_pos q];exact if_pos rfl,λq=>by rw [(Wa l _ hn.1).2,if_neg q];exact if_pos rfl⟩
theorem NG {R:V->aG->Prop} {x:Nm} (ls:List Nm) (ps:List Nm):∀ (vs:List V) (ws:List aG),ps.length=vs.length->dZ R vs ws->(ps.zip vs++ls.map λx=>(x,V.un)).lookup x=some v->nB v=true->∃w,(x.str,w)∈(ps.map Nm.str).zip ws/\R v w:=by
 induction ps with
 | nil=>
  intro vs ws _ _ e n
  refine lH (?_:false=true)
  rw [<-n]
  have f:∀ls:List Nm,(ls.map λx=>(x,V.un)).lookup x=some v->false=nB v:=λls=>dR (motive:=λls=>(ls.map λx=>(x,V.un)).lookup x=some v->false=nB v) (λe=>cC e) (λy ls i e=>by
   rw [dX,jK] at e
   by_cases q:x=y
   ·rw [if_pos q] at e;rw [<-aF e];rfl
   ·rw [if_neg q] at e;exact i e) ls
  exact f ls e
 | cons p ps i=>
  intro vs ws z r e n
  cases vs with
  | nil=>exact nomatch z
  | cons u vs=>
   refine r.elim λw q ew a b=> ?_
   rw [ew]
   rw [List.zip_cons_cons,Lh,jK] at e
   by_cases q:x=p
   ·rw [if_pos q] at e;exact ⟨w,q▸ .head _,aF e▸a⟩
   ·rw [if_neg q] at e;exact (i vs _ (rS z) b e n).imp λw m=>⟨.tail _ m.1,m.2⟩
theorem JU (B:Base G) (SB:CV G X n) {X1:Dg} (hX:X1.C=Jn X):Zc G X1 (n+1):=λc f vs st v st' he fa o fd bodyS ps ls body F A k ws s R hm I cont=>by
 rw [hX] at he
 refine mU (o:=fnOf c f) he λp ep he=>fB he λg he=> ?_
 rw [F.fn] at ep
 rw [<-aF ep] at he g
 have hl:ps.length=vs.length:=of_decide_eq_true g
 refine (bO.mp he).elim λr he=> ?_
 refine aU I λh I=>aU I λtk I=>aU I λmu I=> ?_
 have r0:dZ (Rep G h ⟨mu,bP k⟩) vs ws:=I.2.uJ _ (.head _)
 have hw:ws.length=ps.length:=r0.len.trans hl.symm
 have ck:=RU F.ck
 rw [I.1]
 replace I:=I.2
 have key:∀ (env:Env) (E:aG->aK->Prop) (s₁:aK),env.locals=h.objs.size->(∀x,env.kindOf x=fd.scope.names.lookup x)->env.cells=cellsFrom (h.objs.size+1) fd.scope.names []->MK env fd.scope->
   InCallC (G.at h tk) env.locals (bindL env.kindOf ((ps.map Nm.str).zip ws) λY=>none) env.cells (bindC env.kindOf ((ps.map Nm.str).zip ws) λY=>none) s₁->
   aO (model G.p G.w) (A.deeper env) (execs bodyS env) (λf s'=>R (.ok (.ret (match f with | .ret v=>v | _=> .none))) s') E s₁:=by
  intro env E s₁ hL hkd hC hF IC
  refine IC.done.elim λh₁ q=>q.elim λtk₁ q=> ?_
  have hkeep:Sub h h₁:=q.2
  rw [q.1] at IC⊢
  have hcell:∀p∈env.cells,h₁.IsCell p.2 (bindC env.kindOf ((ps.map Nm.str).zip ws) (λY=>none) p.1):=λp hp=>IC.cell p.1 p.2 (lookup_of_mem_nodup (hC▸ck.2.1 _) hp)
  have hLlt:h.objs.size<h₁.objs.size:=IC.toInCall.ns.elim λo q=>q.elim λes q=>q.elim λep q=>hL▸dG q.1
  have hab:∀p∈env.cells,h.objs.size<p.2:=λp hp=>hL▸IC.above p.1 p.2 hp
  have kp:cU [] h h₁:=⟨λb o Y e=>hkeep b o e,iN hLlt⟩
  have hbn:(((ps.map Nm.str).zip ws).map (·.1)).Nodup:=by
   rw [sX (by rw [aI];exact bT hw.symm)]
   exact AQ (bB.mp ck.2.2.2.2.2.1).1
  have ow:∀a∈frameOf env,h.objs.size<=a/\a<h₁.objs.size:=λa ha=>(aJ.mp ha).elim (λe=>by rw [e,hL];exact ⟨bM _,hLlt⟩) λha=>(aT.mp ha).elim λp hp=>hp.2▸⟨iN (hab p hp.1),(hcell p hp.1).lt⟩
  have ond:(frameOf env).Nodup:=bV.mpr ⟨λhm=>(aT.mp hm).elim λp hp=>absurd (hab p hp.1) (by rw [hp.2,hL];exact qG _),by rw [List.Nodup,lT];exact IC.apart⟩
  have eo:bP [It.fr env (ps.zip vs++ls.map λx=>(x,V.un))]=frameOf env:=cN _
  have J:Iv G st (.fr env (ps.zip vs++ls.map λx=>(x,V.un)):: .mark (st.objs.map (·.1))::k) h₁ mu:=Iv.same (p:=[.vs vs ws]) (p':=[.fr env _]) I.aKr.swap kp cB (λa m=> .inr (ow a (eo▸m)).1) (λa m=>(ow a (eo▸m)).2) (eo.symm▸ond) cB .nil cB λK i mi=>by
   rw [aC.mp mi]
   have at_ {x:Nm} {v:V} (e:(ps.zip vs++ls.map λx=>(x,V.un)).lookup x=some v) (n:nB v=true):=NG ls ps vs ws hl r0 e n
   refine ⟨⟨_,IC.toInCall.ns,λx v e n l=>(at_ e n).imp λw q=>⟨(IW _ (λY=>none) (λY=>none) hbn q.1).1 l,Rep.mono K _ _ q.2⟩⟩,λx hx=> ?_,λp hp=>(hcell p hp).imp λo q=>⟨_,q⟩⟩
   refine (hU.mp (hC▸ck.2.2.1 _ x.str (hkd _▸hx))).elim λa ha=>(hcell (x.str,a) (eY ha)).elim λo q=>⟨a,_,o,ha,q.1,q.2,λv e n=>(at_ e n).imp λw q=>⟨(IW _ (λY=>none) (λY=>none) hbn q.1).2 (by rw [hx];decide),Rep.mono K _ _ q.2⟩⟩
  refine (SB fd.scope body bodyS ck.1 (A.deeper env) env _ (.mark (st.objs.map (·.1))::k) ⟨B,hm.deeper,hF⟩).go he.1 (Inv.at J) λg s' I=> ?_
  have ez:=cL he.2
  have fin {v':V} {w:aG} (ev:v'=v) (I:Inv G r.2 (.v v' w:: .fr env r.1.2:: .mark (st.objs.map (·.1))::k) s'):R (.ok (.ret w)) s':=by
   rw [ev] at I
   refine cont w s' (ez.2▸Inv.elim (P:=λs=>Inv G (left f st.objs.length r.2) (Vl k v w) s) I λh tk mu I=>Inv.at (mu:=mu) ?_)
   have q:=Iv.left (f:=f) (keys:=st.objs.map (·.1)) (k:=k) (λl m=>J.mark l (.tail _ m)) (λr m=>(J.sJ r m).elim λl m=>aT.mpr ⟨_,m,rfl⟩) (I.sub Zj)
   rwa [aI] at q
  revert I
  revert ez fin
  cases r.1.1 with
  | next=>cases g with
   | next=>exact λez fin I=>fin ez.1 (Inv.elim I λh tk mu I=>Inv.at (I.val (v:= .d .none) (w:= .none) (.refl h) rfl))
   | _=>exact λY Y I=>aU I λh I=>aU I λtk I=>aU I λmu I=>(I.2.uJ _ (.head _)).elim
  | ret v'=>cases g with
   | ret w=>exact λez fin I=>fin ez.1 I
   | _=>exact λY Y I=>aU I λh I=>aU I λtk I=>aU I λmu I=>(I.2.uJ _ (.head _)).elim
 refine codeAny_call_cells (fd:=fd) (s:=G.at h tk) (aX (aB (aS _ _) hm.depth) (by decide)) (I.base _ _ F.get) F.data (B.nolimit.keeps I.base) (F.code.keeps I.base) F.bd (F.bind ws hw) F.aQo (λx hx=> ?_)
  (λs₁ IC=>key _ _ s₁ rfl (λY=>rfl) rfl ⟨ck.2.2.2.2.2.2.2.2,F.glob,F.blt,λx=>⟨rfl,λe=>e⟩,ck.2.2.2.1⟩ IC) ck.2.2.2.2.2.2.1 ck.2.2.2.2.2.2.2.1 ck.2.2.2.2.2.2.2.2
 refine (aT.mp (Ch (a:=x.1) (b:=x.2) hx).1).elim λy hy=> ?_
 rw [<-hy.2]
 exact (ck.2.2.2.2.1 y hy.1).imp id λe=>⟨e,ck.2.2.1 _ _ e⟩
end
section
variable {α β:Type} {G:Gr} {A:dT} {k:List It} {st st':St} {h h':Heap} {σ:Wd} {mu:List Addr} {v u:V} {w w1 w2 wv:aG} {E:aG->aK->Prop} {s:aK} {P:Addr->Prop} {ρ:List (Nm×V)} {env:Env} {sc:gF} {X:Dg} {n:Nat} {e:Expr} {pos:Pos} {es:List Ex} {l:List Expr}
structure aIb (G:Gr):Prop where
 fn:∀f,(fnOf none f).isSome=true->∃fa o fd bodyS ps ls body,G.mg (Nm.str f)=some (.ref fa)/\TW G none f fa o fd bodyS ps ls body
 met:∀c f,(fnOf (some c) f).isSome=true->∃fa o fd bodyS ps ls body,findIn G.K (.ref (G.cl c)) (Nm.str f)=some (some (.ref fa))/\isFn G.K (.ref fa)=true/\TW G (some c) f fa o fd bodyS ps ls body
noncomputable def aAd (X:Dg):Prop:=∀c f vs st r,X.C c f vs st=some r->(fnOf c f).isSome=true
theorem Zc.go {c:Option Cl} {f:Nm} {vs:List V} {fa:Addr} {o:Obj} {fd:wL} {bodyS:List Stmt} {ps ls:List Nm} {body:List Sx} {ws:List aG} {Q:aG->aK->Prop} (SC:Zc G X n) (he:X.C c f vs st=some (v,st')) (F:TW G c f fa o fd bodyS ps ls body) (R:Rm A n) (I:Inv G st (.vs vs ws::k) s) (q:∀w s',Inv G st' (Vl k v w) s'->Q w s'):
  aO (model G.p G.w) A (call (.ref fa) ws) Q E s:=Hb (SC c f vs st v st' he F A k ws s _ R I q)
theorem x_call (Fs:aIb G) (S:kT G X n) (SC:Zc G X n) (hX:aAd X) (C:Cx G n A sc env ρ k) {f:Nm} (hc:lM sc (.call f es) e=true):RR G A k (hY X ρ (.call f es)) (eval e env) (Vl k):=xK hc λF hc=>by
 intro st v st' he s E I
 have hc:=cQ hc
 have h1:=cQ hc.1
 show aO _ A (eval (.Call F.x F.l F.kw F.pos) env) _ E s
 rw [Jy h1.1]
 refine cE he λvs s1 e1 he=>Cv (P:=λf=>aO _ A (eval (.Call f F.l [] F.pos) env) _ E s) h1.2 λp hk hd=> ?_
 rw [vF]
 refine (Fs.fn f (hX _ _ _ _ _ he)).elim λfa q=>q.elim λo q=>q.elim λfd q=>q.elim λbodyS q=>q.elim λps q=>q.elim λls q=>q.elim λbody q=>Inv.elim I λh tk mu I=>aA (Ak C.B C.F I hk hd (.inl q.1) ?_)
 exact zP (o:=o) (fd:=fd) (Ec S C hc.2 e1 (Inv.at I) λws s' I=>⟨⟨Inv.elim (P:=λs=>s.heap.get? fa=some o) I λY Y Y I=>I.base _ _ q.2.get,q.2.data⟩,SC.go he q.2 C.R I λY Y I=>I⟩)
theorem YU (es:List Ex):∀l:List Expr,Fy sc es l=true->l.length=es.length:=by
 induction es with
 | nil=>exact λl h=>congrArg oW (cJ.mp h)
 | cons x xs i=>exact λl h=>Ug (P:=λl=>l.length=xs.length+1) h λe r Y Y h=>congrArg (· +1) (i r h)
theorem PH {o:Expr} {name:Str} {apos:Pos} {Q:aG->aK->Prop} (hb:Jx o=true) (hc:Fy sc es l=true) (hlen:es.length<=20) (hline:(apos.endLine==pos.line)=true)
  (c:aO (model G.p G.w) A (eval o env) (λov s₁=>∀pl,aO (model G.p G.w) A (getMethod ov name pl) (λfx s₂=>aO (model G.p G.w) A (callWith pos fx.1 fx.2 (backTo pos (starEach l env)) []) Q E s₂) E s₁) E s):aO (model G.p G.w) A (eval (.Call (.Attribute o name apos) l [] pos) env) Q E s:=by
 have b:=kW (env:=env) (pos:=pos) es l hc
 rw [arm_eval_Call,yQ hb]
 refine aA (gN c (λov s₁ h₁=>aA (eD ?_)) λY Y e=>e)
 have hform:methodCallForm (l.length+([]:List Keyword).length) (backTo pos (starEach l env)) (backToKw pos (keywordEach [] env))=true:=by
  show ((backTo pos (starEach l env)).all (λx=> !x.1)&&true&&decide (l.length+0+0<30))=true
  rw [b.1,List.all_eq_not_any_not,show (λx:Bool×Sem aG=> !!x.1)=(·.1) from funext λx=>vU _,b.2]
  exact decide_eq_true (aX (YU es l hc▸hlen:l.length<=20) (by decide:20<30))
 have hpos:methodCallPos true o env apos pos=pure pos:=by
  unfold methodCallPos
  rw [hline]
  rfl
 unfold methodCall
 rw [hform]
 exact aA (bX (gN (h₁ _) (λfx s₂ h₂=>aA (qY hpos h₂)) λY Y e=>e))
noncomputable def MX (k:Nat):String:=if k=1 then "list" else "dict"
noncomputable def Nn (m:Nm):String:=if m= .iI then "list.append" else if m= .uI then "list.extend" else if m= .Ei then "list.sort" else if m= .qK then "dict.get" else "dict.setdefault"
theorem Gj:Nn .iI="list.append"/\Nn .uI="list.extend"/\Nn .Ei="list.sort"/\Nn .qK="dict.get"/\Nn .kQ="dict.setdefault":=by decide+kernel
noncomputable def aBv (k:Nat) (m:Nm):Prop:=PlainAttrs (MX k)/\Slot (MX k) (Nm.str m) (Nn m)/\typeOf (.builtin (Nn m))=pure (.type "method_descriptor")
theorem XC {j:Nat} (I:Iv G st k h mu) (q:Rep G h ⟨mu,bP k⟩ v w) (e:kindOf v st=some (j,st')):st=st'/\((∃c r,v= .inst c r)\/∃a ob,w= .ref a/\h.get? a=some ob/\ob.cls= .type (MX j)/\ob.dict=none):=by
 cases v with
 | inst c r=>exact pureE (P:=λY st'=>st=st'/\_) e ⟨rfl,.inl ⟨c,r,rfl⟩⟩
 | sd kvs=>exact pureE (P:=λj st'=>st=st'/\(_\/∃a ob,w= .ref a/\h.get? a=some ob/\ob.cls= .type (MX j)/\ob.dict=none)) e ⟨rfl,.inr (q.elim λa p=>p.elim λf p=>p.2.2.2.1.elim λo p'=>p'.elim λes p'=>p'.elim λep p'=>⟨a,o,p.1,p'.1,p'.2.1.1,p'.2.1.2.1⟩)⟩
 | ref r=>
  refine cE e λo s1 e1 e2=> ?_
  have e2:=Ae e2
  refine (bO.mp e1).elim λo' p=> ?_
  have p2:=cL p.2
  refine ⟨p2.2.trans e2.2,.inr ((I.obj (Ft p.1) q).elim λa y=> ?_)⟩
  have y:=p2.1▸y
  have e2:=e2.1
  cases o with
  | list l=>exact y.2.2.elim λws z=>z.elim λn z=>⟨a,_,y.1,z.1,aF e2▸rfl,rfl⟩
  | sJ l=>exact y.2.2.elim λws z=>z.elim λn z=>⟨a,_,y.1,z.1,aF e2▸rfl,rfl⟩
  | di kvs=>exact y.2.2.elim λxs z=>z.1.elim λo z=>z.elim λes z=>z.elim λep z=>⟨a,o,y.1,z.1,aF e2▸z.2.1.1,z.2.1.2.1⟩
  | dt kvs=>exact y.2.2.elim λxs z=>z.1.elim λo z=>z.elim λes z=>z.elim λep z=>⟨a,o,y.1,z.1,aF e2▸z.2.1.1,z.2.1.2.1⟩
  | ns kvs=>exact cC e2
 | _=>exact cC e
theorem aKt {g:O->Option α} {r:Nat} {f:α->M β} {b:β} {P:Prop} (e:(De g r>>=f) st=some (b,st')) (k:∀o a,mC st.objs r=some o->g o=some a->P):P:=cE e λa s e1 Y=>cE e1 λo s' e3 e4=>(bO.mp e3).elim λo' q=>k o' a q.1 ((cL q.2).1▸(Ae e4).1)
theorem BA {g:O->Option α} {i j r:Nat} {f:α->M β} {b:β} {s'':St} (e:(De g r>>=f) st=some (b,st')) (ek:kindOf (.ref r) st=some (j,s'')) (hg:∀o a,g o=some a->Va o=some i):i=j:=aKt e λo a l q=>cE ek λo' s' e3 e4=>(bO.mp e3).elim λo'' p=>aF ((hg o a q).symm.trans ((congrArg Va ((aF (l.symm.trans p.1)).trans (cL p.2).1)).trans (Ae e4).1))
theorem XB {j:Nat} (e:kindOf v st=some (j,st')):st=st':=by
 cases v with
 | inst c r=>exact pureE (P:=λY st'=>st=st') e rfl
 | sd kvs=>exact pureE (P:=λY st'=>st=st') e rfl
 | ref r=>exact cE e λo' s' e3 e4=>(bO.mp e3).elim λo'' p=>(cL p.2).2.trans (Ae e4).2
 | _=>exact cC e
theorem Mh (o:O) (l:List aE) (e:Uz o=some l):Va o=some 1:=by rw [Rc e];rfl
theorem IS (o:O) (l:List (Int×V)) (e:aKi o=some l):Va o=some 2:=by rw [WG e];rfl
theorem PG {o:V} {m:Nm} {vs:List V} {j:Nat} {st'':St} (e:method o m vs st=some (v,st')) (ek:kindOf o st=some (j,st'')):aBv j m:=by
 have get:aBv 2 .qK:=⟨zN,by rw [show Nm.qK.str=aZ "get" by decide+kernel,Gj.2.2.2.1];exact sO,Gj.2.2.2.1▸PySem.F.type_dict_get⟩
 cases o with
 | sd kvs=>exact mU e λp ep e=>fB e λg e=>(pureE (P:=λj Y=>2=j) ek rfl:2=j)▸(of_decide_eq_true g:m= .qK)▸get
 | ref r=>
  have e:Rp r m vs st=some (v,st'):=e
  unfold Rp at e
  by_cases c1:m= .iI
  ·rw [if_pos c1] at e
   exact mU e λy ey e=>Eb e λx ex e=>BA e ek Mh▸c1▸⟨qZ,by rw [show Nm.iI.str=aZ "append" by decide+kernel,Gj.1];exact yV,Gj.1▸PySem.F.type_list_append⟩
  rw [if_neg c1] at e
  by_cases c2:m= .uI
  ·rw [if_pos c2] at e
   exact mU e λy ey e=>Jw e λx l2 ex ex2 e=>BA e ek Mh▸c2▸⟨qZ,by rw [show Nm.uI.str=aZ "extend" by decide+kernel,Gj.2.1];exact yU,Gj.2.1▸PySem.F.type_list_extend⟩
  rw [if_neg c2] at e
  by_cases c3:m= .Ei
  ·rw [if_pos c3] at e
   exact fB e λg0 e=>BA e ek Mh▸c3▸⟨qZ,by rw [show Nm.Ei.str=aZ "sort" by decide+kernel,Gj.2.2.1];exact PySem.F.slot_list_sort,Gj.2.2.1▸PySem.F.type_list_sort⟩
  rw [if_neg c3] at e
  by_cases c4:m= .qK
  ·rw [if_pos c4] at e
   exact mU e λp ep e=>pA e λi ei e=>BA e ek IS▸c4▸get
  rw [if_neg c4] at e
  by_cases c5:m= .kQ
  ·rw [if_pos c5] at e
   exact mU e λp ep e=>pA e λi ei e=>BA e ek IS▸c5▸⟨zN,by rw [show Nm.kQ.str=aZ "setdefault" by decide+kernel,Gj.2.2.2.2];exact uQ,Gj.2.2.2.2▸PySem.F.type_dict_setdefault⟩
  ·rw [if_neg c5] at e;exact cC e
 | _=>exact cC e
theorem WT {o:V} {m:Nm} {vs:List V} {ws:List aG} (B:Base G) (R:Rm A n) (I:Iv G st k h mu) (q:Rep G h ⟨mu,bP k⟩ o w) (qs:dZ (Rep G h ⟨mu,bP k⟩) vs ws) (e:method o m vs st=some (v,st')):Mt G A k h (call (.builtin (Nn m)) (w::ws)) v st':=by
 have pv {t:Sem aG} {x:V} {st1:St} (e:(pure x:M V) st1=some (v,st')) (c:Mt G A k h t x st1):Mt G A k h t v st':=vE (P:=Mt G A k h t) e c
 cases o with
 | sd kvs=>
  refine mU e λp ep e=>fB e λg e=>Jw e λx sx e1 e2 e=>Eb e λy e3 e=> ?_
  rw [twoE ep] at qs
  refine (all2 qs).elim λw1 r=>r.elim λw2 r=>pv e (Mt.calm I ?_)
  rw [r.1,(of_decide_eq_true g:m= .qK),Gj.2.2.2.1]
  exact ZA q (RM e2▸r.2.1.d' e1) (r.2.2.d' e3)
 | ref r=>
  have e:Rp r m vs st=some (v,st'):=e
  unfold Rp at e
  by_cases c1:m= .iI
  ·rw [if_pos c1] at e
   refine mU e λy ey e=>Eb e λx ex e=>xI e λo l m1 eo e=>fB e λg e=> ?_
   rw [KH ey] at qs
   refine (all1 qs).elim λwx r=>VT (P:=Mt G A k h _) e ?_
   rw [r.1,c1,Gj.1]
   exact PL I q (r.2.d' ex) (Rc eo▸m1) (of_decide_eq_true g)
  rw [if_neg c1] at e
  by_cases c2:m= .uI
  ·rw [if_pos c2] at e
   refine mU e λy ey e=>Jw e λx l2 ex ex2 e=>xI e λo l m1 eo e=>DW e λg e=> ?_
   rw [KH ey] at qs
   refine (all1 qs).elim λwx r=>VT (P:=Mt G A k h _) e ?_
   rw [r.1,c2,Gj.2.1]
   exact PK I q (BS ex2▸r.2.d' ex) (Rc eo▸m1) g
  rw [if_neg c2] at e
  by_cases c3:m= .Ei
  ·rw [if_pos c3] at e
   refine fB e λg0 e=>xI e λo l m1 eo e=>fB e λg e=>mU e λl' es e=>VT (P:=Mt G A k h _) e ?_
   rw [cJ.mp g0] at qs
   rw [show ws=[] from qs,c3,Gj.2.2.1]
   exact aEv (R.un (by decide)) I q (Rc eo▸m1) (of_decide_eq_true g) es
  rw [if_neg c3] at e
  by_cases c4:m= .qK
  ·rw [if_pos c4] at e
   refine mU e λp ep e=>pA e λi ei e=>xI e λo kvs m1 eo e=> ?_
   rw [twoE ep] at qs
   refine (all2 qs).elim λw1 r=>r.elim λw2 r=>pv e (Mt.calm I ?_)
   rw [r.1,c4,Gj.2.2.2.1]
   exact aLy B I q (r.2.1.d' ei) r.2.2 (WG eo▸m1)
  rw [if_neg c4] at e
  by_cases c5:m= .kQ
  ·rw [if_pos c5] at e
   refine mU e λp ep e=>pA e λi ei e=>xI e λo kvs m1 eo e=> ?_
   rw [twoE ep] at qs
   refine (all2 qs).elim λw1 r=>r.elim λw2 r=> ?_
   rw [r.1,c5,Gj.2.2.2.2]
   exact Xq B I q (r.2.1.d' ei) r.2.2 (WG eo▸m1) e
  ·rw [if_neg c5] at e;exact cC e
 | _=>exact cC e
theorem aEk {kvs:List (Nm×V)} {es:List lN} {m:Nm} (N:aMo kvs es) (h:(kvs.all λp=>decide (p.1≠m))=true):getL m.str es=some none:=by
 rw [gl N.str]
 refine congrArg some ?_
 unfold sv
 rewrite [List.find?_eq_none.mpr λd hd=> ?_]
 ·rfl
 ·refine (N.key d hd).elim λx p=>p.elim λt p=> ?_
  rw [p.2,Ev]
  exact λq=>(aT.mp p.1).elim λy hy=>of_decide_eq_true (dH.mp h y hy.1) (hy.2.trans (of_decide_eq_true q))
theorem aIl (Fs:aIb G) (S:kT G X n) (SC:Zc G X n) (hX:aAd X) (C:Cx G n A sc env ρ k) {o:Ex} {m:Nm} (hc:lM sc (.met o m es) e=true):RR G A k (hY X ρ (.met o m es)) (eval e env) (Vl k):=xK hc λF hc=>by
 intro st v st' he s E I
 have c1:=cQ hc
 have c2:=cQ c1.1
 have c3:=cQ c2.1
 show aO _ A (eval (.Call F.x F.l F.kw F.pos) env) _ E s
 rw [Jy c3.1]
 refine iJ (P:=λf=>aO _ A (eval (.Call f F.l [] F.pos) env) _ E s) c1.2 λF' hc=> ?_
 have d1:=cQ hc
 have d2:=cQ d1.1
 have d3:=cQ d2.1
 show aO _ A (eval (.Call (.Attribute F'.x F'.s F'.pos) F.l [] F.pos) env) _ E s
 rw [of_decide_eq_true d3.1]
 refine cE he λov s1 e1 he=>cE he λkd s2 e2 he=>cE he λY s3 e3 he=>cE he λvs s4 e4 he=>PH d3.2 c3.2 (of_decide_eq_true c2.2) d2.2 (S.go d1.2 C e1 I λw s I pl=>Inv.elim I λh tk mu I=> ?_)
 have kk:=XC I (I.has (.head _)) e2
 have hp:(backTo F.pos (starEach F.l env)).any (·.1)=false:=by rw [(kW es F.l c3.2).1];exact (kW (pos:=F.pos) es F.l c3.2).2
 rw [<-kk.1] at e3
 by_cases hi:∃c r,ov= .inst c r
 ·refine hi.elim λc hi=>hi.elim λr hi=> ?_
  rw [hi] at e3 he
  refine xI e3 λob kvs mm eo e3=> ?_
  have g:(kvs.all λp=>decide (p.1≠m))=true/\s1=s3:=by
   refine fB (f:=λY=>(pure ():M Unit)) (b:=()) (st':=s3) (show (dK _>>=λY=>pure ()) s1=some ((),s3) from ?_) λg e=>⟨g,pureE (P:=λY s=>s1=s) e rfl⟩
   revert e3
   cases (kvs.all λp=>decide (p.1≠m))<;>exact λe=>e
  rw [<-g.2] at e4
  refine (Xz I (hi▸I.has (v:=ov) (.head _)) mm eo).elim λz p=>p.elim λa p=>p.elim λdes p=>p.elim λn' p=>(Fs.met c m (hX _ _ _ _ _ he)).elim λfa q=>q.elim λfo q=>q.elim λfd q=>q.elim λbodyS q=>q.elim λps q=>q.elim λls q=>q.elim λbody q=> ?_
  rw [p.1]
  refine method_fn (s:=G.at h tk) (C.B.MF.keeps I.base) p.2.2.2.1 (Mv (C.B.get c)).1 (Mv (C.B.get c)).2 q.1 (beq_iff_eq.mp q.2.1) ?_ ?_
  ·show (lookIn m.str (dictOf des n')).map _=_
   rw [lookIn_dict,aEk p.2.2.2.2.1 g.1]
   rfl
  ·rw [p.1,hi] at I
   exact zP (o:=fo) (fd:=fd) (Ec S C.on c3.2 e4 (Inv.at I) λws s' I=>⟨⟨Inv.elim (P:=λs=>s.heap.get? fa=some fo) I λY Y Y I=>I.base _ _ q.2.2.get,q.2.2.data⟩,
    SC.go he q.2.2 C.R (Inv.elim (P:=λs=>Inv G s4 (.vs (.inst c r::vs) (.ref z::ws)::k) s) I λh tk mu I=>Inv.at ((I.vals (dZ.cons (I.has (v:= .inst c r) (.tail _ (.head _))) (I.uJ _ (.head _)))).sub aNh)) λY Y I=>I⟩)
 ·have e3':s1=s3:=by
   revert e3
   unfold Rd
   cases ov with
   | inst c r=>exact absurd ⟨c,r,rfl⟩ hi
   | _=>exact λe=>pureE (P:=λY s=>s1=s) e rfl
  rw [<-e3'] at e4
  refine kk.2.elim (λy=>absurd y hi) λy=>y.elim λa y=>y.elim λob y=> ?_
  have he:(do let k'<-kindOf ov;dK (kd==k');method ov m vs:M V) s4=some (v,st'):=by
   revert he
   cases ov with
   | inst c r=>exact absurd ⟨c,r,rfl⟩ hi
   | _=>exact id
  refine cE he λkd' s5 e5 he=>fB he λg he=> ?_
  rw [<-beq_iff_eq.mp g] at e5
  rw [<-XB e5] at he
  rw [y.1] at I⊢
  have M:=PG he e5
  refine getMethod_builtin (s:=G.at h tk) (T:=MX kd) ⟨ob,y.2.1,y.2.2.1⟩ M.1 M.2.1 M.2.2 (λb e=>⟨ob,(Gp e)▸y.2.1,y.2.2.2⟩) (nG hp (Ec S C.on c3.2 e4 (Inv.at I) λws s' I=>Inv.elim I λh tk mu I=> ?_))
  exact WT C.B C.R ((I.sub (Ij)).sub Ij) (I.has (v:=ov) (.tail _ (.head _))) (I.uJ _ (.head _)) he tk E (λw s=>Inv G st' (Vl k v w) s) λw h' tk' mu' I=>Inv.at I
end
section
variable {α β:Type} {G:Gr} {A:dT} {k:List It} {st st':St} {h h':Heap} {σ:Wd} {mu:List Addr} {v u:V} {w w1 w2 wv:aG} {E:aG->aK->Prop} {s:aK} {P:Addr->Prop} {ρ:List (Nm×V)} {env:Env} {sc:gF} {X:Dg} {n:Nat} {e:Expr} {pos:Pos} {es:List Ex} {l:List Expr}
structure Mk (G:Gr):Prop where
 QX:G.mg (aZ "Flat")=some (.ref (G.cl .flat))
 QT:G.mg (aZ "Functions")=some (.ref (G.cl .func))
 makes:∀c,makesIn G.K (G.cl c)=true
 keep:∀c,keepIn G.K (.ref (G.cl c))=true
theorem Rm.Qd {C:Addr} {vs:List aG} {kw:List (Str×aG)} (R:Rm A (n+1)):Rm (A.under (.builtin "type.__call__" ⟨.ref C::vs,kw⟩)) n where
 handled:=R.handled
 depth:=by have:=R.depth;show A.depth+1+n<=900;rwa [bL,dQ 1 n]
 units:=by
  have hf:(Code.builtin "type.__call__" ⟨.ref C::vs,kw⟩).frames=0:=by first | rfl | kernel_rfl
  have e:(A.under (.builtin "type.__call__" ⟨.ref C::vs,kw⟩)).units=A.units+(1+3*(Code.builtin "type.__call__" ⟨.ref C::vs,kw⟩).frames):=rfl
  rw [e,hf]
  refine aB ?_ R.units
  rw [vP,bL A.units,dQ (1+3*0)]
  exact cW (bE (bE (by decide) _) _) _
theorem OZ {f:Unit->M α} {a:α} {Pr:Prop} (e:(HF u>>=f) st=some (a,st')) (c:u= .d .none->f () st=some (a,st')->Pr):Pr:=
 cE e λY s1 e1 e2=>Eb e1 λx ex e1=>by
  cases x with
  | none=>exact c ex (pureE (P:=λY s1=>f () s1=some (a,st')->f () st=some (a,st')) e1 (λe=>e) e2)
  | _=>exact cC e1
theorem PQ {x:Nm} (kvs:List (Nm×V)):kvs.lookup x=some v->(x,v)∈kvs:=by
 induction kvs with
 | nil=>exact λe=>cC e
 | cons p r i=>
  intro e
  rw [jK] at e
  by_cases q:x=p.1
  ·rw [if_pos q] at e;rw [q,<-aF e];exact .head _
  ·rw [if_neg q] at e;exact .tail _ (i e)
theorem BE {tk:Nat} (I:Iv G st k h mu) (c:Cl) (kvs:List (Nm×V)) (hu:(kvs.all λp=> !nB p.2)=true) (hl:cu kvs<=100):
  Inv G (st.add (.ns kvs)) (Vl k (.inst c st.next) (.ref (h.objs.size+1))) (G.at ((h.push emptyDict).push (instObj (G.cl c) h.objs.size)) tk):=by
 have kp:cU [] h ((h.push emptyDict).push (instObj (G.cl c) h.objs.size)):=(cU.push _ _).trans (.push _ _)
 have z:((h.push emptyDict).push (instObj (G.cl c) h.objs.size)).objs.size=h.objs.size+1+1:=by rw [cO,cO]
 have q:=I.new (a:=h.objs.size) (o:= .ns kvs) kp (bM _) (by rw [z];exact gZ (cI _)) λK=>⟨[],0,bI _ (bC _ rfl),⟨by rw [lO,eH];exact hl,cB⟩,λx v e n=>by
  have:=dH.mp hu _ (PQ kvs e)
  rw [n] at this
  exact lH this⟩
 refine Inv.at (q.1.val (.refl _) ⟨h.objs.size+1,h.objs.size,rfl,q.2,?_,λm=> ?_,λm=> ?_⟩)
 ·have:=bC (h.push emptyDict) (o:=instObj (G.cl c) h.objs.size) rfl
  rwa [cO] at this
 ·exact (aV.mp m).elim (λm=>absurd (I.lo _ (aL _ m)).2 (fG.mpr (bJ _))) λm=>zR _ (aC.mp m)
 ·exact absurd (I.lo _ (aQ _ m)).2 (fG.mpr (bJ _))
theorem BO {nm:String} {f:Expr} {Q:aG->aK->Prop} {tk:Nat} (hg:xH sc nm f=true) (C:Cx G n A sc env ρ k) (I:Iv G st k h mu) (hv:G.mg (aZ nm)=some w) (c:aO (model G.p G.w) A (callWith pos w [] (backTo pos (starEach l env)) []) Q E (G.at h tk)):aO (model G.p G.w) A (eval (.Call f l [] pos) env) Q E (G.at h tk):=
 Cv (P:=λf=>aO _ A (eval (.Call f l [] pos) env) Q E (G.at h tk)) hg λp hk hd=>by
 rw [vF]
 exact aA (Ak C.B C.F I hk hd (.inl hv) c)
theorem Inv.dup {st1:St} {x:aG} (I:Inv G st1 (Vl k v x) s):Inv G st1 (.vs [v] [x]:: .v v x::k) s:=Inv.elim I λh tk mu I=>Inv.at (I.vals (dZ.cons (I.has (.head _)) rfl))
theorem is_none {st1:St} (I:Inv G st1 (Vl k (.d .none) w) s):w= .none:=Inv.elim (P:=λY=>w= .none) I λh tk mu I=>I.has (v:= .d .none) (.head _)
theorem aCb (Fs:aIb G) (M:Mk G) (SC:Zc G X n) (C:Cx G (n+1) A sc env ρ k) (hc:lM sc .AR e=true):RR G A k (hY X ρ .AR) (eval e env) (Vl k):=xK hc λF hc=>by
 intro st v st' he s E I
 have hc:=cQ hc
 have h1:=cQ hc.1
 show aO _ A (eval (.Call F.x F.l F.kw F.pos) env) _ E s
 rw [Jy h1.1,cJ.mp h1.2]
 refine cE he λr s1 e1 he=>cE he λu s2 e2 he=>OZ he λhu he=>Inv.elim I λh tk mu I=>BO hc.2 C I M.QX (callWith_K0 (C.B.MF.keeps I.base) (M.keep .flat) (Hb ?_))
 have q1:=cL (aF e1)
 rw [<-q1.1,<-q1.2] at e2
 rw [<-q1.1] at he
 refine (Fs.met .flat .kC (by decide+kernel)).elim λfa q=>q.elim λfo q=>q.elim λfd q=>q.elim λbodyS q=>q.elim λps q=>q.elim λls q=>q.elim λbody q=> ?_
 have KX:=C.B.MF.keeps I.base
 have J:=BE (tk:=tk) I .flat [(.vB,.un),(.sB,.un),(.Eo,.un),(.yK,.un)] rfl (by decide)
 have q1:findIn G.K (.ref (G.cl .flat)) "__init__"=some (some (.ref fa)):=by
  have e:Nm.kC.str=aZ "__init__":=by decide+kernel
  rw [e] at q;exact q.1
 exact make_core (d:=G.s.drawn) (makes_of KX (M.makes .flat)) (looks_findIn KX q1) (λself=>bind_fn KX self (beq_iff_eq.mp q.2.1)) (.inl rfl) (SC _ _ _ _ _ _ e2 q.2.2 _ _ _ _ _ C.R.Qd J.dup λw s' I=>by
  rw [hu] at I
  exact ⟨is_none I,pureE (P:=λv st'=>Inv G st' (Vl k v _) s') he (Inv.sub I Ij)⟩)
end
section
variable {G:Gr} {A:dT} {k:List It} {st st':St} {h h':Heap} {σ:Wd} {mu:List Addr} {v u:V} {w w1 w2 wv:aG} {E:aG->aK->Prop} {s:aK} {ρ:List (Nm×V)} {env:Env} {sc:gF} {X:Dg} {n:Nat} {e:Expr}
noncomputable def aQi:Pos:={line:=276,col:=8,endLine:=276,endCol:=13}
noncomputable def aQh:Pos:={line:=276,col:=8,endLine:=276,endCol:=15}
noncomputable def aQg:Pos:={line:=276,col:=8,endLine:=276,endCol:=24}
noncomputable def aPl:Pos:={line:=276,col:=8,endLine:=276,endCol:=26}
noncomputable def aPk:Pos:={line:=277,col:=8,endLine:=277,endCol:=12}
noncomputable def aPj:Pos:={line:=277,col:=8,endLine:=277,endCol:=20}
noncomputable def aQf:Pos:={line:=277,col:=23,endLine:=277,endCol:=27}
noncomputable def aQe:Pos:={line:=277,col:=8,endLine:=277,endCol:=27}
noncomputable def DI:Arg:={arg:=aZ "self",annotation:=none,pos:={line:=275,col:=17,endLine:=275,endCol:=21}}
noncomputable def aCs:Arguments:={posonlyargs:=[],args:=[DI],vararg:=none,kwonlyargs:=[],kw_defaults:=[],kwarg:=none,defaults:=[]}
noncomputable def NF:gF:={kind:=ScopeKind.function,names:=[(aZ "self",NameKind.local),(aZ "__class__",mG),(aZ "super",NameKind.globalImplicit)],isGenerator:=false,isCoroutine:=false}
noncomputable def aJc:Array aG:= #[zL (aZ "__init__") 726,zL (aZ "Functions.__init__") 727,zL (aZ "/claim/cut.py") 728,jE 275 0,jE 1 0,jE 0 0,jE 0 0,
 jE 3 0,pM 408,Aw true,jE 181 0,pM 409,jD,pM 410,pM 411,pM 412,jE 731 0,jE 275 0,zL (aZ "/claim/cut.py") 732]
noncomputable def aNt:Expr:= .Call (.Attribute (.Call (.Name "super" aQi) [] [] aQh) "__init__" aQg) [] [] aPl
noncomputable def aNs:Expr:= .Attribute (.Name "self" aPk) "partial" aPj
noncomputable def UU:List Stmt:=[.Expr aNt aPl,.Assign [aNs] (.Constant .none 0 aQf) aQe]
noncomputable def GK:=ksFn "__init__" "Functions.__init__" aCs UU NF .none .none .none (.str "fdsolve.sums" 497) none (.ref 413) (.ref 407) 402
structure aHk (G:Gr):Prop where
 init:findIn G.K (.ref (G.cl .func)) "__init__"=some (some (.ref 414))
 aOr:isFn G.K (.ref 414)=true
 lk:G.K.lookup 414=some ⟨.type "function",none,.func GK,#[]⟩
 code:codeIn G.K (.ref 413) "Functions.__init__"=true
 aQm:G.K.lookup 413=some ⟨.type "code",none,.fields aJc,#[]⟩
 aLh:((G.p.main.file:Str)=="/claim/cut.py")=true
 cell:G.K.lookup 402=some ⟨.type "cell",none,.cell (some (.ref (G.cl .func))),#[]⟩
 hD:(clsIn G.K (G.cl .func)).isSome=true
 sub:mroIn G.K (G.cl .func) (.ref (G.cl .func))=some true
 aKj:nsIn G.K mainGlobals "super"=some none
 top:(G.p.main.scope.names.lookup ("super":Str)).isSome=false
 aIz:nsIn G.K cStatics "thirdparty.any"=some none
 aJe:ks_superIn G.K (G.cl .func) (G.cl .func) "__init__"=some (some (.ref 314))
 aJd:typeIn G.K (.ref 314)=some (.type "function")
 GK:fnIn G.K 314=true
 KW:findIn G.K (.ref (G.cl .KW)) "__init__"=some (some (.ref 314))
theorem Qj:NF.names.lookup ("self":Str)=some NameKind.local:=by kernel_rfl
theorem aEt {o:Expr} {name:Str} {apos pos:Pos} {c:Code} {Q:aG->aK->Prop} (hline:(apos.endLine==pos.line)=true)
  (h:_root_.PySem.wpAt (model G.p G.w) A c (attributeBase o name env (eval o env)) (λov s₁=>∀pl,aO (model G.p G.w) A (getMethod ov name pl) (λfx s₂=>aO (model G.p G.w) A (callWith pos fx.1 fx.2 (backTo pos (starEach [] env)) []) Q E s₂) E s₁) E s):
  _root_.PySem.wpAt (model G.p G.w) A c (eval (.Call (.Attribute o name apos) [] [] pos) env) Q E s:=by
 rw [arm_eval_Call]
 refine _root_.PySem.wpAt_bind (ks_wpAt_mono h (λov s₁ h₁=>Gl (aA (eD ?_))) λY Y e=>e)
 have hpos:methodCallPos true o env apos pos=pure pos:=by
  unfold methodCallPos
  rw [hline]
  rfl
 unfold methodCall
 rw [show methodCallForm (([]:List Expr).length+([]:List Keyword).length) (backTo pos (starEach [] env)) (backToKw pos (keywordEach [] env))=true from rfl]
 exact aA (bX (gN (h₁ _) (λfx s₂ h₂=>aA (qY hpos h₂)) λY Y e=>e))
theorem aCc {p:tO} {loose:List Str} {mean:ExcName->Option aG} (T:Top p loose mean G.mg G.mb G.h) (Fs:aIb G) (M:Mk G) (SC:Zc G X n)
  (U:aHk G)
  (C:Cx G (n+2) A sc env ρ k) (hc:lM sc .Lz e=true):RR G A k (hY X ρ .Lz) (eval e env) (Vl k):=xK hc λF hc=>by
 intro st v st' he s E I
 have hc:=cQ hc
 have h1:=cQ hc.1
 show aO _ A (eval (.Call F.x F.l F.kw F.pos) env) _ E s
 rw [Jy h1.1,cJ.mp h1.2]
 refine cE he λr s1 e1 he=>cE he λu s2 e2 he=>OZ he λhu he=>cE he λY s3 e3 he=>Inv.elim I λh tk mu I=>BO hc.2 C I M.QT (callWith_K0 (C.B.MF.keeps I.base) (M.keep .func) (Hb ?_))
 have q1:=cL (aF e1)
 rw [<-q1.1,<-q1.2,hu] at e2
 rw [<-q1.1] at he e3
 have B:=C.B
 have KX:=B.MF.keeps I.base
 have J:=BE (tk:=tk) I .func [(.fZ,.un),(.vC,.un),(.gV,.un)] rfl (by decide)
 refine make_core (d:=G.s.drawn) (makes_of KX (M.makes .func)) (looks_findIn KX U.init) (λself=>bind_fn KX self (beq_iff_eq.mp U.aOr)) (.inl rfl) ?_
 have x1:((h.push emptyDict).push (instObj (G.cl .func) h.objs.size)).get? (h.objs.size+1)=some (instObj (G.cl .func) h.objs.size):=by
  have:=bC (h.push emptyDict) (o:=instObj (G.cl .func) h.objs.size) rfl
  rwa [cO] at this
 have x2:((h.push emptyDict).push (instObj (G.cl .func) h.objs.size)).get? h.objs.size=some emptyDict:=bI _ (bC _ rfl)
 show codeAny _ _ _ _ (G.at ((h.push emptyDict).push (instObj (G.cl .func) h.objs.size)) tk)
 generalize (h.push emptyDict).push (instObj (G.cl .func) h.objs.size)=h2 at J x1 x2⊢
 refine aU J λh2' J=>aU J λtk2 J=>aU J λmu2 J=> ?_
 have eh:h2=h2':=congrArg Dj J.1
 replace J:=J.2
 rw [<-eh] at J
 have KX2:=B.MF.keeps J.base
 have hm1:Rm (A.under (.builtin "type.__call__" ⟨[.ref (G.cl .func)],[]⟩)) (n+1):=C.R.Qd
 refine ks_codeAny_call_defAt (s:=G.at h2 tk) (binds:=[((aZ "self":Str),.ref (h.objs.size+1))]) (aX (aB (aS _ _) hm1.depth) (by decide)) (KX2 _ _ U.lk) rfl (B.nolimit.keeps J.base) (codeRec_of KX2 U.code) rfl (BindsTo.of_eq (by kernel_rfl)) (show ∀x∈NF.names,x.2≠ .cell by decide) (λx hx=>by rw [aC.mp hx];exact Qj) (λh₁ hns hk₁=> ?_) rfl rfl rfl
 generalize hL:(G.at h2 tk).heap.objs.size=L at hns
 have F:Fr h2 L h₁ (λx=>[((aZ "self"),pM (h.objs.size+1))].reverse.lookup x):=⟨hns,hk₁,bT hL⟩
 have Tn:Top p loose mean G.mg G.mb h2:=T.keeps J.base
 have I1:∀ {h3:Heap},(∀b o,h2.get? b=some o->h3.get? b=some o)->InstAt h3 (h.objs.size+1) (instObj (G.cl .func) h.objs.size) (G.cl .func) (some emptyDict):=λk=>⟨k _ _ x1,rfl,rfl,k _ _ x2⟩
 have hint:interactive (callEnv GK L 414)=false:=rfl
 refine ks_wpAt_execs_cons (ks_wpAt_Expr_any (aEt rfl ?_) (hi:=hint))
 have hv:(λx=>[((aZ "self"),pM (h.objs.size+1))].reverse.lookup x) DI.arg=some (.ref (h.objs.size+1)):=rfl
 refine (hU.mp U.hD).elim λcdD hD=> ?_
 refine ks_node (h₀:=h2) (news:=[]) F KX2 (λp hp=>(nomatch hp)) Tn U.lk (ar:=DI) rfl hv (I1 F.keep) U.aQm rfl U.aLh U.cell hD U.sub U.aKj (by decide) (by kernel_rfl) (by kernel_rfl) Qj rfl U.top (by first | boot_by_name | rfl | kernel_rfl) λso h3 F3 N3 Y pl=> ?_
 refine ks_method F3 KX2 N3 (.head _) (I1 F3.keep) U.aIz U.aJe U.aJd (by decide) λq h4 F4 N4 Y=> ?_
 refine callWith_M0 (methP N4 (.head _) (KX2.keeps F4.keep)) U.GK (call_meth N4 (.head _) ?_)
 refine (Fs.met .KW .kC (by decide+kernel)).elim λfa q=>q.elim λfo q=>q.elim λfd q=>q.elim λbodyS q=>q.elim λps q=>q.elim λls q=>q.elim λbody q=> ?_
 have hfa:fa=314:=by
  have g1:=q.1
  rw [show Nm.kC.str=aZ "__init__" by decide+kernel] at g1
  exact Gp (aF (aF (g1.symm.trans U.KW)))
 have z4:h2.objs.size<h4.objs.size:=by rw [show h2.objs.size=L from hL];exact F4.ns.lt
 have kp:cU [] h2 h4:=⟨λb o Y e=>F4.keep b o e,iN z4⟩
 refine F4.ns.elim λoL qL=> ?_
 have J4:Iv G (st.add (.ns [(.fZ,.un),(.vC,.un),(.gV,.un)])) (.ob L oL:: .v (.inst .func st.next) (.ref (h.objs.size+1))::k) h4 mu2:=Iv.same (p:=[]) (p':=[.ob L oL]) J kp cB (λa m=> .inr (by rw [aC.mp m,<-hL];exact bM _)) (λa m=>by rw [aC.mp m];exact F4.ns.lt) (bV.mpr ⟨bN,.nil⟩) cB .nil cB
  λK i m=>by rw [aC.mp m];exact qL.elim λes qL=>qL.elim λep qL=>qL.1
 rw [<-hfa]
 refine SC (some .KW) .kC _ _ _ _ e2 q.2.2 _ _ _ ⟨h4,G.s.gens,G.s.drawn,_,G.s.os⟩ _ hm1.deeper (Inv.at (J4.vals (dZ.cons (J4.has (v:= .inst .func st.next) (.tail _ (.head _))) rfl))) λw s5 I5=> ?_
 rw [is_none I5]
 refine aU I5 λh5 I5=>aU I5 λtk5 I5=>aU I5 λmu5 I5=> ?_
 rw [I5.1]
 replace I5:=I5.2
 have ns5:=F4.ns.at' (h':=h5) λo e=>(I5.uJ (.ob L oL) (.tail _ (.head _))).trans ((qL.elim λes qL=>qL.elim λep qL=>qL.1.symm.trans e:some oL=some o))
 refine ks_wpAt_execs_cons (Gl ?_)
 have swp (c:Nat) (pc:Pos) (t:Expr) (ln:Nat) (ev:Env):swapsWithSole [t] (.Constant .none c pc) ln ev=pure false:=rfl
 rw [Ce,swp]
 refine aA (eD (aA (aH ?_)))
 rw [if_neg (by decide)]
 refine aA (wpAny_Constant_none ?_)
 refine aA (aH ?_)
 show aO _ _ (do assign (.Attribute (.Name "self" aPk) "partial" aPj) _ .none;(pure Ky:Sem Flow)) _ _ _
 rw [Di]
 refine aA (aA (bX (wpAny_Name (Dh (s:=G.at h5 tk5) rfl Qj ns5 rfl ?_) (by decide))))
 refine aA (eD (aA (bX ?_)))
 have e6:Nm.gV.str=aZ "partial":=by decide+kernel
 have rs (A:dT):=Qt (A:=A) (x:= .gV) (w:= .ref (h.objs.size+1)) (wv:= .none) (o:= .inst .func st.next) (v:= .d .none) (k:= .v (.d .none) .none:: .v (.inst .func st.next) (.ref (h.objs.size+1))::k) B (.tail _ (.head _)) (.head _)
 rw [e6] at rs
 have I6:=I5.sub Zj
 rw [is_none (Inv.at (tk:=0) I6:Inv G s2 (Vl _ (.d .none) w) _)] at I6
 exact (rs _).go e3 (Inv.at I6) λY s I=>Do (aH (Gl (aH ⟨rfl,pureE (P:=λv st'=>Inv G st' (Vl k v _) s) he (Inv.sub I Ij)⟩)))
end
section
variable {α β γ:Type} {G:Gr} {A:dT} {k k':List It} {st st':St} {s:aK} {h h':Heap} {mu:List Addr} {v u:V} {w w1 w2:aG} {E:aG->aK->Prop} {ρ:List (Nm×V)} {env:Env} {sc:gF} {X:Dg} {n:Nat} {e:Expr} {pos:Pos}
noncomputable def Df (env:Env) (k:List It) (p:Fl×List (Nm×V)) (g:Flow):List It:=aNe p.1 g (.fr env p.2::k)
noncomputable def Ok (env:Env) (k:List It) (ρ:List (Nm×V)) (_:Unit):List It:= .fr env ρ::k
theorem Sj {ρ':List (Nm×V)} {f:Fl×List (Nm×V)} (he:(pure (Fl.next,ρ'):M (Fl×List (Nm×V))) st=some (f,st')) (I:Inv G st (.fr env ρ'::k) s):Inv G st' (Df env k f .next) s:=pureE (P:=λf st'=>Inv G st' (Df env k f .next) s) he I
noncomputable def DX (e:Expr):Bool:=(view e).1 != 7&&(view e).1 != 0
theorem aNq (tg e:Expr) (line:Nat):swapsWithSole [tg] e line env=bif DX e then pure false else swapsWithSole [tg] e line env:=by
 cases e<;>first | exact Jk (pure false) | exact Jk _
theorem Qi {tg:Expr} {line:Nat} (h:DX e=true):swapsWithSole [tg] e line env=pure false:=(aNq tg e line).trans (by rw [h];rfl)
theorem aNr (ts:List Expr) (k:Nat) (p:Pos) (env:Env) (e:Expr):swappedStores [.Tuple ts k p] e env=bif tT (.Tuple ts k p) e then swappedStores [.Tuple ts k p] e env else pure none:=by
 cases e<;>first | exact Jk (pure none) | exact Jk _
theorem aNp (env:Env) (e tg:Expr):swappedStores [tg] e env=bif tT tg e then swappedStores [tg] e env else bif (view tg).1==15 then swappedStores [tg] e env else pure none:=by
 cases tg<;>first | exact Jk (pure none) | exact aNr .. | exact Jk _
theorem Wj {tg:Expr} (h:tT tg e=false) (ht:(view tg).1≠15):swappedStores [tg] e env=pure none:=(aNp env e tg).trans (by rw [h,beq_false_of_ne ht];rfl)
theorem pJ {j:Nat} {f:FE->Bool} (h:tR j e f=true):(view e).1=j:=beq_iff_eq.mp (cQ h).1
theorem SA {t:Tg} (h:MG sc t e=true):(view e).1≠15:=λz=>by
 cases t with
 | n x=>exact nomatch z.symm.trans (pJ (j:=14) (show isNm sc 1 x.str e=true from h))
 | t ts=>exact nomatch z.symm.trans (pJ (Kl h))
 | a _ _=>exact nomatch z.symm.trans (pJ (BZ h))
 | s _ _=>exact nomatch z.symm.trans (pJ (BY h))
theorem aAo {t:Tg} {tg:Expr} {x:Ex} (C:Fx G n A sc env) (S:kT G X n) (hct:MG sc t tg=true) (hce:lM sc x e=true) (hb:tT tg e=false) (hs:swapsWithSole [tg] e pos.line env=pure false):
  RR G A (.fr env ρ::k) (X.E ρ x>>=λv=>On X.E t v ρ>>=λρ'=>pure (Fl.next,ρ')) (exec (.Assign [tg] e pos) env) (Df env k):=λst f st' he s E I=>by
 rw [Ce,hs]
 refine aA (eD (aA (aH ?_)))
 rw [if_neg (by decide)]
 refine cE he λv s1 e1 he=>cE he λρ' s2 e2 he=>aA (S.go hce C.cx e1 I λw s I=> ?_)
 rw [Wj hb (SA hct)]
 refine aA (aH ?_)
 rw [show assignEach [tg] env=_ from Mm (r:=[]) (RZ hct) rfl]
 show aO _ A (do assign tg env w;(pure Ky:Sem Flow)) _ E _
 exact aA ((SZ (k:= .v v w::k) C S hct (.head _)).go e2 (Inv.elim I λh tk mu I=>Inv.at I.swap) λY s I=>aH (Sj he (Inv.sub I Zj)))
theorem JZ {x y:Nm} {a b:V} (h:x≠y) (l:List (Nm×V)):mT x a (mT y b l)=mT y b (mT x a l):=by
 induction l with
 | nil=>rfl
 | cons p r i=>
  rw [kZ,kZ]
  by_cases hx:x=p.1
  ·rw [if_pos hx,if_neg λe=>h (hx.trans e.symm),kZ,if_pos hx,kZ,if_neg λe:y=x=>h e.symm]
  ·by_cases hy:y=p.1
   ·rw [if_pos hy,if_neg hx,kZ,if_neg h,kZ,if_pos hy]
   ·rw [if_neg hy,if_neg hx,kZ,if_neg hx,kZ,if_neg hy,i]
theorem DM {x:Nm} {v:V} (l:List (Nm×V)):∀ρ:List (Nm×V),x∉l.map (·.1)->mL l (mT x v ρ)=mT x v (mL l ρ):=by
 induction l with
 | nil=>exact λY Y=>rfl
 | cons p l i=>
  intro ρ h
  show mL l (mT p.1 p.2 (mT x v ρ))=mT x v (mL l (mT p.1 p.2 ρ))
  rw [JZ λe:p.1=x=>h (by rw [<-e];exact .head _),i _ λm=>h (.tail _ m)]
theorem JW (l:List (Nm×V)):∀ρ:List (Nm×V),(l.map (·.1)).Nodup->mL l.reverse ρ=mL l ρ:=by
 induction l with
 | nil=>exact λY Y=>rfl
 | cons p l i=>
  intro ρ h
  have h:=bV.mp h
  rw [yE,Ut,i _ h.2]
  exact (DM l ρ h.1).symm
theorem dZ.rev {R:α->β->Prop} (xs:List α):∀ys:List β,dZ R xs ys->dZ R xs.reverse ys.reverse:=by
 induction xs with
 | nil=>exact λys r=>(show ys=[] from r)▸rfl
 | cons x xs i=>
  intro ys r
  refine r.elim λy q e a b=> ?_
  rw [e,yE,yE]
  exact dZ.app (i q b) (dZ.cons a rfl)
theorem JP (C:Fx G n A sc env) (l:List (Nm×V)):∀ (ρ:List (Nm×V)) (ws:List aG),(∀p∈l,kn sc p.1.str=1)->(∀h σ,(∀i∈k,i.ok G h σ)->dZ (Rep G h σ) (l.map (·.2)) ws)->RR G A (.fr env ρ::k) (pure (mL l ρ)) (assignInOrder (l.map λp=>bindName env p.1.str) ws) (Ok env k):=by
 induction l with
 | nil=>exact λρ ws Y H st ρ' st' he s E I=>pureE (P:=λρ' st'=>aO _ A _ (λu s=>Inv G st' (Ok env k ρ' u) s) E s) he (aH I)
 | cons p l i=>
  intro ρ ws hk H st ρ' st' he s E I
  refine Inv.elim I λh tk mu I=>dZ.elim (H h _ λi m=>I.uJ i (.tail _ m)) λw r ew Y Y=> ?_
  rw [ew] at H⊢
  show aO _ A (do holding r (bindName env p.1.str w);assignInOrder (l.map λp=>bindName env p.1.str) r) _ E _
  exact aA (bX ((Wl C.F (hk p (.head _)) A k ρ p.2 w λh σ f=>(H h σ f).We.1).go (a:=mT p.1 p.2 ρ) (st':=st) rfl (Inv.at I) λY s I=>(i _ r (λq m=>hk q (.tail _ m)) λh σ f=>(H h σ f).We.2).go he I λY Y I=>I))
theorem filter_cons {f:Expr->Option Str} {es:List Expr} {P:Prop} (h:((e::es).filterMap f).length=(e::es).length) (c:∀x,f e=some x->(es.filterMap f).length=es.length->P):P:=by
 rw [vK] at h
 cases q:f e with
 | none=>
  rw [q] at h
  exact absurd (List.length_filterMap_le f es) (Nat.not_le.mpr (h▸cI _))
 | some x=>
  rw [q] at h
  exact c x q (rS h)
noncomputable def TS (sc:gF) (f:Expr->Option Str) (ts:List Tg) (es:List Expr) (vs:List V) (ρ ρ':List (Nm×V)) (st st':St):Prop:=∃xs:List Nm,es.filterMap f=xs.map Nm.str/\ts.filterMap Wi=xs/\xs.length=vs.length/\ρ'=mL (xs.zip vs) ρ/\st=st'/\(∀x∈xs,kn sc x.str=1)
theorem PA {EV:List (Nm×V)->Ex->M V} {f:Expr->Option Str} (hf:∀e x,f e=some x->∃p,e= .Name x p) (ts:List Tg):∀ (es:List Expr) (vs:List V) (ρ ρ':List (Nm×V)) (st st':St),Yq sc ts es=true->(es.filterMap f).length=es.length->Kq EV ts vs ρ st=some (ρ',st')->TS sc f ts es vs ρ ρ' st st':=by
 induction ts with
 | nil=>
  intro es vs ρ ρ' st st' hc hl he
  rw [cJ.mp hc]
  exact fB he λg he=>pureE (P:=λρ' st'=>TS sc f [] [] vs ρ ρ' st st') he ⟨[],rfl,rfl,(congrArg oW (cJ.mp g)).symm,rfl,rfl,cB⟩
 | cons t ts i=>
  intro es vs ρ ρ' st st' hc
  refine RY (P:=λes=>(es.filterMap f).length=es.length->_->TS sc f (t::ts) es vs ρ ρ' st st') hc λe r h1 h2 hl he=>filter_cons hl λx ex hl=>Th (P:=λvs=>TS sc f (t::ts) (e::r) vs ρ ρ' st st') he λv vs ρ1 s1 e1 e2=>(hf e x ex).elim λp ep=> ?_
  have kk:(view e).1=14:=by rw [ep];rfl
  cases t with
  | n y=>
   have ey:x=y.str:=Cv (P:=λe=>f e=some x->x=y.str) h1 (λpos Y Y q=>(hf _ x q).elim λp q=>(Expr.Name.inj q).1.symm) ex
   refine pureE (P:=λρ1 s1=>Kq EV ts vs ρ1 s1=some (ρ',st')->TS sc f (.n y::ts) (e::r) (v::vs) ρ ρ' st st') e1 (λe2=> ?_) e2
   exact (i r vs _ ρ' _ st' h2 hl e2).elim λxs q=>⟨y::xs,by rw [vK,ex,q.1,ey];rfl,by rw [vK,q.2.1];rfl,congrArg (· +1) q.2.2.1,q.2.2.2.1,q.2.2.2.2.1,λz m=>(aJ.mp m).elim (λe=>e▸Cv (P:=λY=>kn sc y.str=1) h1 λY k Y=>k) (q.2.2.2.2.2 z)⟩
  | t _=>exact nomatch kk.symm.trans (pJ (Kl h1))
  | a _ _=>exact nomatch kk.symm.trans (pJ (BZ h1))
  | s _ _=>exact nomatch kk.symm.trans (pJ (BY h1))
theorem IG {β:Type} {c:Bool} {x y:β} {P:β->Prop} (h1:P x) (h2:c=false->P y):P (if c=true then x else y):=by
 cases c with
 | false=>exact h2 rfl
 | true=>exact h1
theorem XQ {β:Type} {c:Bool} {a b:β} (h:(if c=true then some a else none)=some b):a=b:=by
 cases c with
 | false=>exact nomatch h
 | true=>exact aF h
noncomputable def aMk (ts:List Expr) (m:Sem (Option (List Str))):Prop:=m=pure none\/∃f:Expr->Option Str,(∀e x,f e=some x->∃p,e= .Name x p)/\m=pure (some (ts.filterMap f))/\(ts.filterMap f).length=ts.length
theorem Tq (ts vs:List Expr) (k1 k2:Nat) (p1 p2:Pos) (env:Env) (hc:vs.all (constantsAlone 8)=false):
  aMk ts (swappedStores [.Tuple ts k1 p1] (.Tuple vs k2 p2) env):=
 IG (P:=aMk ts) (.inl rfl) λY=>IG (P:=aMk ts) (.inl rfl) λY=>IG (P:=aMk ts) (.inl rfl) λhn=>IG (P:=aMk ts) (.inl rfl) λY=>by
  rw [hc]
  refine .inr ⟨_,λe x h=> ?_,rfl,bne_eq_false_iff_eq.1 (uE.1 hn).1⟩
  cases e with
  | Name id pos=>exact ⟨pos,by rw [XQ h]⟩
  | _=>exact cC h
theorem aDf {ts:List Tg} {tg es:List Expr} {xs:List Ex} {k1 k2:Nat} {p1 p2:Pos} (C:Fx G n A sc env) (S:kT G X n) (hct:Yq sc ts tg=true) (hce:Fy sc xs es=true) (hlen:ts.length=xs.length) (hconst:es.all (constantsAlone 8)=false) (hnd:(ts.filterMap Wi).Nodup) (hz:xs.length<=1000):
  RR G A (.fr env ρ::k) (Yd (X.E ρ) xs>>=λvs=>Kq X.E ts vs ρ>>=λρ'=>pure (Fl.next,ρ')) (exec (.Assign [.Tuple tg k1 p1] (.Tuple es k2 p2) pos) env) (Df env k):=λst f st' he s E I=>by
 rw [Ce,Qi rfl]
 refine aA (eD (aA (aH ?_)))
 rw [if_neg (by decide)]
 refine cE he λvs s1 e1 he=>cE he λρ' s2 e2 he=>aA (Tuple_ ?_)
 rw [(kW xs es hce).1]
 refine (aCw S xs es _ hce C.cx).go e1 I λws s I=>Inv.elim I λh tk mu I=> ?_
 have each:=LN (env:=env) ts tg hct
 have r:dZ (Rep G h ⟨mu,bP (.fr env ρ::k)⟩) vs ws:=I.uJ _ (.head _)
 have wl:ws.length=xs.length:=r.len.trans (IM _ _ e1)
 refine wH (s:=G.at h tk) ?_ (wl▸(Bw hz).2)
 have I2:=(I.grow (.push h {cls:= .type "tuple",data:= .seq ws.toArray})).swap
 have hT:(h.push {cls:= .type "tuple",data:= .seq ws.toArray}).IsTuple h.objs.size ws.toArray:=⟨_,bC _ rfl,rfl,0,rfl⟩
 have sz:ws.toArray.size=tg.length:=by rw [oG,wl,each.2,hlen]
 refine (Tq tg es k1 k2 p1 p2 env hconst).elim (λe3=> ?_) λq=>q.elim λfn q=> ?_
 ·rw [e3]
  refine aA (aH ?_)
  show aO _ A (do assign (.Tuple tg k1 p1) env (.ref h.objs.size);(pure Ky:Sem Flow)) _ E _
  rw [arm_assign_Tuple]
  refine aA (aA (eD ?_))
  unfold unpack
  rw [show assignEach tg env=_ from each.1,HG,aI,<-sz]
  refine aA (bX (Hp C.R.handled (.inl hT) λh' tk' kp=> ?_))
  rw [dM]
  exact (aGz C S ts tg (.vs vs ws::k) ρ vs ws hct λh σ f=>f _ (.head _)).go e2 (Inv.at (I2.grow kp)) λY s I=>aH (Sj he (Inv.sub I Zj))
 ·rw [q.2.1]
  refine (PA q.1 ts tg vs ρ ρ' s1 s2 hct q.2.2 e2).elim λys a=> ?_
  refine aA (aH ?_)
  show aO _ A (do
   rule "assign.swapped-stores"
   let items<-unpackItems (.ref h.objs.size) (tg.filterMap fn).length none
   assignInOrder ((tg.filterMap fn).reverse.map λn=>bindName env n) items.reverse
   (pure Ky:Sem Flow)) _ E _
  have yl:ys.length=vs.length:=a.2.2.1
  rw [q.2.2,<-sz,a.1]
  refine aA (nE (aA (Hp C.R.handled (.inl hT) λh' tk' kp=> ?_)))
  have ez:((ys.map Nm.str).reverse.map λn=>bindName env n)=((ys.zip vs).reverse.map λp=>bindName env p.1.str):=by
   have er:ys.reverse=(ys.zip vs).reverse.map (·.1):=by rw [zT,sX (bT yl)]
   rw [<-zT,dM,er,dM]
   rfl
  rw [ez]
  have nd:((ys.zip vs).map (·.1)).Nodup:=by rw [sX (bT yl),<-a.2.1];exact hnd
  refine aA ((JP C (ys.zip vs).reverse ρ ws.reverse (λp m=>a.2.2.2.2.2 p.1 (Ch (List.mem_reverse.mp m)).1) (k:= .vs vs ws::k) λh σ f=> ?_).go (a:=ρ') (st':=s2) (by rw [JW _ _ nd,<-a.2.2.2.1];exact congrArg (λs=>some (ρ',s)) a.2.2.2.2.1) (Inv.at (I2.grow kp)) λY s I=>aH (Sj he (Inv.sub I Zj)))
  rw [zT,Ld (bT yl.symm)]
  exact dZ.rev _ _ (f _ (.head _))
end
section
variable {α β γ:Type} {G:Gr} {A:dT} {k k':List It} {st st':St} {s:aK} {h h':Heap} {mu:List Addr} {v u:V} {w w1 w2:aG} {E:aG->aK->Prop} {ρ:List (Nm×V)} {env:Env} {sc:gF} {X:Dg} {n:Nat} {e:Expr} {pos:Pos} {σ:Wd}
noncomputable def Zf (h:Heap) (I:Addr):Prop:=∃o T vs,h.get? I=some o/\o.cls= .type T/\(T="list_iterator"\/T="tuple_iterator"\/T="range_iterator")/\o.data= .fields vs
set_option tactic.hygienic true in
theorem Ub {target:Expr} {I:Addr} {v:aG} {Q:Unit->aK->Prop} (x:Zf s.heap I) (h:Q () s):aO (model G.p G.w) A (letOwnedTupleGo target (.ref I) v) Q E s:=by
 obtain ⟨o,T,vs,ho,hc,hT,hd⟩:=x
 have nc:["enumerate","zip","dict_itemiterator","dict_reverseitemiterator","odict_iterator","itertools.zip_longest","itertools.pairwise"].contains T=false:=by rcases hT with rfl | rfl | rfl<;>decide+kernel
 have go (a:Addr) (l:List Expr) (n:Nat) (p:Pos):aO (model G.p G.w) A (letOwnedTupleGo (.Tuple l n p) (.ref I) (.ref a)) Q E s:=by
  unfold letOwnedTupleGo
  refine aA (wpAny_load ho ?_)
  rw [hc,hd]
  show aO _ _ (if (_&&_)=true then _ else _) _ _ _
  rw [nc]
  exact aH h
 cases target with
 | Tuple l n p=>
  cases v with
  | ref a=>exact go a l n p
  | _=>exact aH h
 | List l p=>
  cases v with
  | ref a=>exact go a [] 0 p
  | _=>exact aH h
 | _=>exact aH h
theorem Ni {I:Addr} {fp:List Addr} {n:Nat} {P:Nat->aG->Prop} {S:Nat->Heap->Prop} (W:∀A:dT,A.handled=none->Un G.p G.w A I fp [I] n P S) (ob:∀i h,S i h->Zf h I):TT G false I [I] fp S (λj us=>∃v,us=[v]/\P j v) n where
 item:=λA h tk j hh hj hs E Q c=>iB ((W A hh).item j (G.at h tk) _ _ hj hs λv h' tk' hP hs' kp z=>c v h' tk' [v] ⟨v,rfl,hP⟩ rfl ⟨kp,z⟩ λtarget Y E Q c=>Ub (s:=G.at h' tk') (ob _ _ hs') (c h' hs' (.refl h')))
 done:=λA h tk hh hs E Q c=>iB ((W A hh).done (G.at h tk) _ _ hs λh' tk' kp z=>c h' tk' ⟨kp,z⟩)
 self:=λA h tk j hh hs E Q c=>(W A hh).self j (G.at h tk) Q E hs c
 frame:=λj h h' hs f=>(W {} rfl).frame j h h' hs f
noncomputable def Made (G:Gr) (h h':Heap) (σ:Wd) (a:Option Addr) (rs:List Nat) (l:List aE):Prop:=cU [] h h'/\h.objs.size<h'.objs.size/\∀σ',tL h σ h' σ'->(∀b,a=some b->(σ'.out b/\∃o,h.get? b=some o)\/∃r∈rs,σ'.mu[r]? =some b)->CX G h' σ' false h.objs.size [h.objs.size] rs l
theorem HX {a:Addr} {ws:Array aG} {l:List aE} {rs:List Nat} {tk:Nat} {Q:aG->aK->Prop} (hs:h.IsTuple a ws\/h.IsList a ws) (d:jM h σ.out l ws.toList) (c:∀h',Made G h h' σ (some a) rs l->Q (.ref h.objs.size) (G.at h' tk)):aO (model G.p G.w) A (pyIter (.ref a)) Q E (G.at h tk):=by
 have lt:a<h.objs.size:=hs.elim (λs=>s.elim λo s=>dG s.1) λs=>s.elim λo s=>dG s.1
 have hne:a≠h.objs.size:=fX lt
 have hz:ws.size=l.length:=bH.symm.trans d.len
 have mk {o:Obj} {S:Nat->Heap->Prop} (W:∀A:dT,A.handled=none->Un G.p G.w A h.objs.size [h.objs.size,a] [h.objs.size] ws.size (λi v=>ws[i]? =some v) S) (ob:∀i h',S i h'->Zf h' h.objs.size) (s0:S 0 (h.push o)):Made G h (h.push o) σ (some a) rs l:=
  ⟨.push _ _,by rw [cO];exact cI _,λσ' K place=>⟨S,_,0,[h.objs.size,a],by rw [eH,<-hz];exact Ni W ob,s0,λb hb=>(aJ.mp hb).elim (λe=> .inl (e▸ .head _)) λhb=>by
   rw [aC.mp hb]
   exact .inr ((place a rfl).imp (λq=>⟨q.1,q.2.imp λo e=>bI _ e⟩) id),λj x us e q=>by
   refine q.elim λv q=>(d.get e).elim λw p=> ?_
   rw [q.1]
   have q2:=q.2
   rw [eH,<-eS,p.1] at q2
   exact jM.one (aF q2▸K.dt p.2)⟩⟩
 exact hs.elim (λhs=>wG (s:=G.at h tk) hs (c _ (mk (S:=λi h'=>h'.IsTupleIter h.objs.size a i/\h'.IsTuple a ws) (λA hh=>Walks.tuple hh _ a hne ws) (λi h hx=>hx.1.elim λo q=>⟨o,_,_,q.1,q.2.1,.inr (.inl rfl),q.2.2⟩) ⟨⟨_,bC _ rfl,rfl,rfl⟩,hs.imp λo p=>⟨bI _ p.1,p.2⟩⟩)))
  λhs=>rN (s:=G.at h tk) hs (c _ (mk (S:=λi h'=>h'.IsListIter h.objs.size a i/\h'.IsList a ws) (λA hh=>Pp hh _ a hne ws) (λi h hx=>hx.1.elim λo q=>⟨o,_,_,q.1,q.2.1,.inl rfl,q.2.2⟩) ⟨⟨_,bC _ rfl,rfl,rfl⟩,hs.push _⟩))
theorem Jr {a:Int} (g:small a=true): -(2^62)<=a/\a<2^62:=
 have l:(a.natAbs:Int)<2^62:=fL.2 (lS (of_decide_eq_true g) (show 2^60<2^62 by decide))
 ⟨tZ (aD (mQ a▸zC) (dA l)),jH zC l⟩
theorem QC {lo hi:Int} {r:Addr} {t u v:Tok} {tk:Nat} {Q:aG->aK->Prop} (hr:IsRange h r lo hi 1 t u v) (g1:small lo=true) (g2:small hi=true) (c:∀h',Made G h h' σ none [] ((gH (hi - lo).toNat).map λ(k:Nat)=> .int (lo+(k:Int)))->Q (.ref h.objs.size) (G.at h' tk)):aO (model G.p G.w) A (pyIter (.ref r)) Q E (G.at h tk):=by
 refine wpAny_pyIter_range (s:=G.at h tk) hr (small_one (Jr g1).1 (Jr g1).2 (Jr g2).1 (Jr g2).2) (c _ ⟨.push _ _,by rw [cO];exact cI _,λσ' K place=>⟨λi h'=>IsRangeIter h' h.objs.size (lo+(i:Nat)*1) (((hi - lo).toNat:Int) - (i:Nat)) 1,λj us=>∃v,us=[v]/\∃t,v= .int (lo+(j:Nat)*1) t,0,[h.objs.size],?_,?_,λb hb=> .inl hb,λj x us e q=> ?_⟩⟩)
 ·rw [eH,aI,oH]
  exact Ni (λA hh=>Walks.range hh _ lo 1 (hi - lo).toNat) λi h' hx=>⟨_,_,_,hx,rfl,.inr (.inr rfl),rfl⟩
 ·have e1:lo+((0:Nat):Int)*1=lo:=cA lo
  have e2:(((hi - lo).toNat:Int) - ((0:Nat):Int))=if lo<hi then hi - lo else 0:=(Int.sub_zero _).trans (by
   split
   ·rename_i h;exact iS (Dv (dA h))
   ·rename_i h;exact congrArg Nat.cast (Int.toNat_of_nonpos (fV (dD.1 h))))
  rw [rangeSize_one]
  show IsRangeIter (h.push _) h.objs.size (lo+((0:Nat):Int)*1) (((hi - lo).toNat:Int) - ((0:Nat):Int)) 1
  rw [e1,e2]
  exact bC _ rfl
 ·refine q.elim λv q=>aU q.2 λt q2=> ?_
  rw [lU] at e
  refine (bO.mp e).elim λi p=> ?_
  have hi:=lK.mp p.1
  have ei:j=i:=by have:=hi.2;rwa [Hi] at this
  rw [q.1,q2,<-p.2,ei,eH,yH]
  exact jM.one ⟨t,rfl⟩
theorem Iv.iter {a:Option Addr} {l:List aE} (I:Iv G st k h mu) (m:Made G h h' ⟨mu,bP k⟩ a [] l) (p:∀b,a=some b->Wd.out ⟨mu,bP k⟩ b/\∃o,h.get? b=some o):Iv G st (.it false h.objs.size [h.objs.size] [] l::k) h' mu:=
 Iv.same (p:=[]) (p':=[.it false h.objs.size [h.objs.size] [] l]) I m.1 cB (λa x=> .inr (bT (aC.mp x).symm)) (λa x=>by rw [aC.mp x];exact m.2.1) (bV.mpr ⟨bN,.nil⟩) cB .nil cB
  λK i x=>by rw [aC.mp x];exact m.2.2 _ K λb e=> .inl ⟨(p b e).2.elim λo g=>(K.k b o (p b e).1 g).1,(p b e).2⟩
theorem XJ {p:List aE×Option Nat} {Q:aG->aK->Prop} (he:Et v st=some (p,st')) (I:Inv G st k s) (m:It.v v w∈k) (c:∀a s',p.1.length<=bW->Inv G st' (.it false a [a] p.2.toList p.1::k) s'->Q (.ref a) s'):aO (model G.p G.w) A (pyIter w) Q E s:=by
 refine Inv.elim I λh tk mu I=> ?_
 have r:=I.has m
 cases v with
 | d x=>
  have r:Dt h (Wd.out ⟨mu,bP k⟩) x w:=r
  refine mU he λl e he=>pureE (P:=λp st'=>(∀a s',p.1.length<=bW->Inv G st' (.it false a [a] p.2.toList p.1::k) s'->Q (.ref a) s')->_) he (λc=> ?_) c
  have go {T:String} (sq:Mr h (Wd.out ⟨mu,bP k⟩) T l.length (jM h (Wd.out ⟨mu,bP k⟩) l) w) (hT:T="tuple"\/T="list"):aO (model G.p G.w) A (pyIter w) Q E (G.at h tk):=
   Mr.elim sq λa vs z ew sq d=>sq.elim λo n po g cl dt Y=>by
    rw [ew]
    exact HX (hT.imp (λe=>⟨o,g,by rw [cl,e],n,dt⟩) λe=>⟨o,g,by rw [cl,e],n,dt⟩) d λh' M=>c _ _ z (Inv.at (I.iter M λb e=>aF e▸⟨po,o,g⟩))
  exact (BR e).elim (λq=>go (T:="tuple") (by rw [q] at r;exact r) (.inl rfl)) λq=>go (T:="list") (by rw [q] at r;exact r) (.inr rfl)
 | GW lo hi=>
  refine fB he λg he=>pureE (P:=λp st'=>(∀a s',p.1.length<=bW->Inv G st' (.it false a [a] p.2.toList p.1::k) s'->Q (.ref a) s')->_) he (λc=> ?_) c
  have g:=cQ g
  refine r.elim λr q=>q.elim λt q=>q.elim λu q=>q.elim λv q=> ?_
  rw [q.1]
  exact QC q.2.2 (cQ g.1).2 g.2 λh' M=>c _ _ (by rw [aI,oH];exact aB (of_decide_eq_true (cQ g.1).1) (by decide)) (Inv.at (I.iter M λb e=>cC e))
 | ref r'=>
  refine xI he λo l mo eo he=>cE he λY s1 e1 he=> ?_
  have e1:st.put r' (.sJ l)=s1:=(cL (aF e1)).2
  rw [<-e1] at he
  refine pureE (P:=λp st'=>(∀a s',p.1.length<=bW->Inv G st' (.it false a [a] p.2.toList p.1::k) s'->Q (.ref a) s')->_) he (λc=> ?_) c
  rw [Rc eo] at mo
  refine (I.obj mo r).elim λa y=>y.2.2.elim λws z=>z.elim λn z=> ?_
  rw [y.1]
  refine HX (σ:=⟨mu,bP k⟩) (rs:=[r']) (.inr ⟨_,z.1,rfl,n,rfl⟩) z.2.1 λh' M=>c _ _ z.2.2 (Inv.at (Iv.upd (p:=[]) (p':=[.it false h.objs.size [h.objs.size] [r'] l]) (o':= .sJ l) I mo (I.live mo rfl) y.2.1 (M.1.up λb hb=>nomatch hb) (λa x=> .inr (bT (aC.mp x).symm)) (λa x=>by rw [aC.mp x];exact M.2.1) (bV.mpr ⟨bN,.nil⟩)
   (λr x=>⟨aC.mp x,rfl⟩) (bV.mpr ⟨bN,.nil⟩) rfl λK=>⟨⟨ws,n,M.1.sub _ _ z.1,K.Sr z.2.1,z.2.2⟩,λi x=> ?_⟩))
  rw [aC.mp x]
  exact M.2.2 _ K λb e=> .inr ⟨r',.head _,aF e▸K.m _ _ y.2.1⟩
 | _=>exact cC he
end
section
variable {α β γ:Type} {G:Gr} {A:dT} {k k':List It} {st st':St} {s:aK} {h h':Heap} {mu:List Addr} {v u:V} {w w1 w2:aG} {E:aG->aK->Prop} {ρ:List (Nm×V)} {env:Env} {sc:gF} {X:Dg} {n:Nat} {e:Expr} {pos:Pos} {σ:Wd} {z:Bool} {a:Addr} {os:List Addr} {rs:List Nat} {x:aE} {xs:List aE}
theorem Iv.perm (I:Iv G st k h mu) (p:k.Perm k'):Iv G st k' h mu:=by
 have po:(bP k).Perm (bP k'):=p.flatMap_right _
 have pr:(Ii k).Perm (Ii k'):=p.flatMap_right _
 have pm:(PE k).Perm (PE k'):=p.flatMap_right _
 have K:tL h ⟨mu,bP k⟩ h ⟨mu,bP k'⟩:=⟨λa o x g=>⟨⟨x.1,λy=>x.2 (po.mem_iff.mpr y)⟩,g⟩,λY Y e=>e⟩
 have pa:(mu++bP k).Perm (mu++bP k'):=po.append_left mu
 exact ⟨I.base,I.size,I.len,pa.nodup_iff.mp I.nd,λa m=>I.lo a (pa.mem_iff.mpr m),λr o m=>(I.objs r o m).imp λa q=>⟨q.1,q.2.mono K λY g=>g⟩,I.keys,λi m=>It.mono K (λY Y Y g=>g) (I.uJ i (p.mem_iff.mpr m)),pr.nodup_iff.mp I.ME,λr m=>I.sJ r (pr.mem_iff.mpr m),λl m=>I.mark l (pm.mem_iff.mpr m)⟩
theorem Inv.perm (I:Inv G st k s) (p:k.Perm k'):Inv G st k' s:=Inv.elim I λY Y Y I=>Inv.at (I.perm p)
theorem OR {i:It} (I:Iv G st (i::k) h mu) {a:Addr} (m:a∈i.own):a<h.objs.size:=(I.lo a (aQ _ (HB m))).2
theorem Xb {i:It} (I:Iv G st (i::k) h mu):i.own.Nodup/\i.rs.Nodup:=⟨(bB.mp (bB.mp I.nd).2.1).1,(bB.mp I.ME).1⟩
theorem OS {i:It}:bP [i]=i.own:=cN _
theorem aDj {i:It}:Ii [i]=i.rs:=cN _
theorem HY {target:Expr} {N:aK->Prop} {K:aG->aK->Prop} (hh:A.handled=none) (I:Inv G st (.it z a os rs (x::xs)::k) s) (hz:z=true->∃l,x= .tuple l) (ht:z=true->∃l n p,target= .Tuple l n p) (c:∀v s',Inv G st (.it z a os rs xs:: .v (.d x) v::k) s'->K v s'):
  aO (model G.p G.w) A (pyNext (.ref a)) (λr s₁=>match r with
   | none=>N s₁
   | some v=>aO (model G.p G.w) A (letOwnedTupleGo target (.ref a) v) (λY s'=>K v s') E s₁) E s:=by
 refine Inv.elim I λh tk mu I=> ?_
 have r:CX G h ⟨mu,os++bP k⟩ z a os rs (x::xs):=I.uJ _ (.head _)
 refine r.elim λS p=>p.elim λP p=>p.elim λi p=>p.elim λfp p=>p.1.item A h tk i hh (gM (jN _)) p.2.1 E _ λv h1 tk1 us hP hH kp LG=>LG target ht E _ λh2 hs2 kp2=>c v _ (Inv.at (Iv.same (p:=[.it z a os rs (x::xs)]) (p':=[.it z a os rs xs,.v (.d x) v]) (wr:=os) I (kp.trans kp2) (λa m=>OS.symm▸m) (λa m=> .inl m) (λa m=>bA (OR I (OS (i:= .it z a os rs xs)▸m)) (kp.trans kp2).2) (OS (i:= .it z a os rs xs)▸(Xb I).1) (λr m=>m) (aDj (i:= .it z a os rs xs)▸(Xb I).2) (λl m=>m) λK i' m=> ?_))
 refine (aJ.mp m).elim (λe=> ?_) λm=> ?_
 ·rw [e]
  refine ⟨S,P,i+1,fp,by rw [bL,dQ 1];exact p.1,hs2,λb hb=>(p.2.2.1 b hb).imp id λq=>q.imp (λq=>q.2.elim λo g=>⟨(K.k b o q.1 g).1,o,(K.k b o q.1 g).2⟩) λq=>q.imp λr q=>⟨q.1,K.m _ _ q.2⟩,λj y us e q=>K.Sr (p.2.2.2 (j+1) y us e (by rw [<-bL,lD];exact q))⟩
 ·rw [aC.mp m]
  have d:=p.2.2.2 0 x us rfl hP
  cases z with
  | false=>
   have eu:us=[v]:=hH
   rw [eu] at d
   exact d.elim λw r e q Y=>K.dt ((fR e).1▸q)
  | true=>
   refine (hz rfl).elim λl el=>aU hH λT q=>q.elim λn q=> ?_
   rw [el] at d⊢
   rw [q.1]
   have oT:Wd.out ⟨mu,bP (.it true a os rs (x::xs)::k)⟩ T:=Fi I q.2.1
   have dl:jM h (Wd.out ⟨mu,os++bP k⟩) l us:=d
   exact ⟨dl.len▸q.2.2.2,T,us.toArray,rfl,⟨oT,_,n,kp2.1 T _ (λm=>oT.2 (aL _ m)) q.2.2.1,rfl,rfl,λY=>rfl⟩,K.Sr dl⟩
theorem QE {N:aK->Prop} {F:aG->aK->Prop} (hh:A.handled=none) (I:Inv G st (.it z a os rs []::k) s) (c:∀s',Inv G st (.fz rs::k) s'->N s'):aO (model G.p G.w) A (pyNext (.ref a)) (λr s₁=>match r with
   | none=>N s₁
   | some v=>F v s₁) E s:=by
 refine Inv.elim I λh tk mu I=> ?_
 have r:CX G h ⟨mu,os++bP k⟩ z a os rs []:=I.uJ _ (.head _)
 exact r.elim λS p=>p.elim λP p=>p.elim λi p=>p.elim λfp p=>p.1.done A h tk hh p.2.1 E _ λh' tk' kp=>c _ (Inv.at (Iv.same (p:=[.it z a os rs []]) (p':=[.fz rs]) (wr:=os) I kp (λa m=>OS.symm▸m) cB cB .nil (λr m=>m) (aDj (i:= .fz rs)▸(Xb I).2) (λl m=>m) λK i m=>by rw [aC.mp m];trivial))
theorem aFc (I:Inv G st (.it z a os rs xs::k) s):Inv G st (.fz rs::k) s:=Inv.elim I λh tk mu I=>Inv.at (Iv.same (p:=[.it z a os rs xs]) (p':=[.fz rs]) (wr:=[]) I (.refl h) cB cB cB .nil (λr m=>m) (aDj (i:= .fz rs)▸(Xb I).2) (λl m=>m) λK i m=>by rw [aC.mp m];trivial)
theorem Ot {fr:Option Nat} (I:Inv G st (.fz fr.toList::k) s) (e:Og fr st=some ((),st')):Inv G st' k s:=by
 cases fr with
 | none=>exact pureE (P:=λY st'=>Inv G st' k s) e (Inv.sub I Ij)
 | some r=>
  refine Inv.elim I λh tk mu I=>xI e λo l m eo e=> ?_
  have e1:st.put r (.list l)=st':=(cL (aF e)).2
  have nr:r∉Ii k:=(bV.mp I.ME).1
  have eo:o= .sJ l:=by
   cases o with
   | sJ m=>exact congrArg O.sJ (aF eo)
   | _=>exact cC eo
  rw [eo] at m
  exact e1▸(I.objs r _ m).elim λa q=>Inv.at (Iv.upd (p:=[.fz [r]]) (p':=[]) (o':= .list l) I m nr q.1 (.refl h) cB cB .nil cB .nil rfl λK=>⟨sU.mono (a:=a) K (λY g=>g) q.2,cB⟩)
theorem CF {t:Tg} {b:List (Nm×V)} (ht:Xx t=true) (e:sK t x=some b):∃l,x= .tuple l:=by
 cases t with
 | t ts=>exact (bR.mp e).imp λl q=>Vx q.1
 | _=>exact lH ht
theorem Bx (h:isPlain e=true) (x:aG):foldedSetIterable e env x=pure x:=by
 cases e<;>first | rfl | exact lH h
theorem yP {f:Fl} {g:Flow} {P:Prop} (I:Inv G st (aNe f g k) s) (h:aNe f g k=[.no]):P:=aU I λY I=>aU I λY I=>aU I λY I=>((h▸I.2).uJ _ (.head _):It.ok G _ _ .no).elim
theorem QV {t:Tg} {te:Expr} {body:List Sx} {bodyS:List Stmt} {R:wJ->aK->Prop} {f:Fl×List (Nm×V)} (C:Fx G n A sc env) (SB:CV G X n) (hct:Zk sc t te=true) (hcb:EY sc body bodyS=true) (hz:z=true->Xx t=true) (he:forL X.B t body xs ρ st=some (f,st')) (I:Inv G st (.fr env ρ:: .it z a os rs xs::k) s)
  (c:∀g s',Inv G st' (Df env (.fz rs::k) f g) s'->R (.ok g) s'):codeAny (model G.p G.w) A (.forLoop te (.ref a) bodyS [] env) R s:=by
 have htt (q:z=true):∃l n p,te= .Tuple l n p:=by
  have q:=hz q
  cases t with
  | t ts=>exact iJ (P:=λte=>∃l n p,te= .Tuple l n p) (Kl hct) λF Y=>⟨_,_,_,rfl⟩
  | _=>exact lH q
 refine codeAny_forLoop_any (λj s'=>∃ys ρi sti,j=ys.length/\Inv G sti (.fr env ρi:: .it z a os rs ys::k) s'/\forL X.B t body ys ρi sti=some (f,st')) (λj s' q=> ?_) xs.length ⟨xs,ρ,st,rfl,I,he⟩
 refine q.elim λys q=>q.elim λρi q=>q.elim λsti q=> ?_
 have I:=q.2.1
 have he:=q.2.2
 rw [q.1]
 cases ys with
 | nil=>exact QE C.R.handled (Inv.perm I (.swap _ _ _)) λs' I=>aH (pureE (P:=λf st'=>(∀g s',Inv G st' (Df env (.fz rs::k) f g) s'->R (.ok g) s')->R (.ok .next) s') he (λc=>c .next s' (Inv.perm I (.swap _ _ _))) c)
 | cons x ys=>
  refine mU he λb eb he=>cE he λr s1 e1 he=>HY C.R.handled (Inv.perm I (.swap _ _ _)) (λq=>CF (hz q) eb) htt λv s I=> ?_
  refine (TA (F:= .fr env) (k:= .v (.d x) v:: .it z a os rs ys::k) C.R.handled t sc te ρi x v hct (λy m=>Wl C.F (RX t te hct y m)) (Hs.of (.head _))).go (a:=mL b ρi) (st':=sti) (by rw [CG t x b ρi eb];rfl) (Inv.perm I (((cY _ _ _).trans ((cY _ _ _).cons _)).trans (.swap _ _ _))) λY s I=> ?_
  refine (SB sc body bodyS hcb A env _ (.it z a os rs ys::k) C).go e1 (Inv.sub I Zj) λg s I=> ?_
  revert he I
  cases r.1 with
  | next=>cases g with
   | next=>exact λhe I=>⟨ys.length,cI _,ys,r.2,s1,rfl,I,he⟩
   | _=>exact λY I=>yP (f:= .next) I rfl
  | ret u=>cases g with
   | ret w=>exact λhe I=>pureE (P:=λf st'=>(∀g s',Inv G st' (Df env (.fz rs::k) f g) s'->R (.ok g) s')->R (.ok (.ret w)) s) he (λc=>c (.ret w) s (Inv.perm (aFc (Inv.perm I ((((cY _ _ _).cons _).trans (.swap _ _ _))))) (((cY _ _ _).trans ((cY _ _ _).cons _))))) c
   | _=>exact λY I=>yP (f:= .ret u) I rfl
end
section
variable {α β γ:Type} {G:Gr} {A:dT} {k k':List It} {st st':St} {s:aK} {h h':Heap} {mu:List Addr} {v u:V} {w w1 w2:aG} {E:aG->aK->Prop} {ρ:List (Nm×V)} {env:Env} {sc:gF} {X:Dg} {n i l1 l2:Nat} {e:Expr} {pos:Pos} {σ:Wd} {b b1 b2:Bool} {xs ys:Array aG}
noncomputable def As (b:Bool) (h:Heap) (l:Addr) (ws:Array aG):Prop:=match b with
 | true=>h.IsTuple l ws
 | false=>h.IsList l ws
noncomputable def aAc (b:Bool) (h:Heap) (it l:Addr) (i:Nat):Prop:=match b with
 | true=>h.IsTupleIter it l i
 | false=>h.IsListIter it l i
noncomputable def Cu (b:Bool) (l:Addr):Obj:={cls:= .type (match b with | true=>"tuple_iterator" | false=>"list_iterator"),data:= .fields #[.ref l,.int 0 0]}
theorem As.at {l:Addr} {ws:Array aG} (x:As b h l ws) (e:∀o,h.get? l=some o->h'.get? l=some o):As b h' l ws:=by
 cases b with
 | false=>exact Heap.IsList.at (h:=h) x e
 | true=>exact aU x λo r=>⟨o,e _ r.1,r.2⟩
theorem aAc.at {it l:Addr} (x:aAc b h it l i) (e:∀o,h.get? it=some o->h'.get? it=some o):aAc b h' it l i:=by
 cases b<;>exact aU x λo r=>⟨o,e _ r.1,r.2⟩
theorem As.lt {l:Addr} {ws:Array aG} (x:As b h l ws):l<h.objs.size:=by
 cases b<;>exact aU x λo r=>dG r.1
theorem GZ {l:Addr} {ws:Array aG} {Q:aG->aK->Prop} (hs:As b s.heap l ws) (h:Q (.ref s.heap.objs.size) {s with heap:=s.heap.push (Cu b l)}):aO (model G.p G.w) A (pyIter (.ref l)) Q E s:=by
 cases b with
 | false=>exact rN hs h
 | true=>exact wG hs h
theorem Qw {α:Type} {Q:α->aK->Prop} (hh:A.handled=none) (k:∀o1 o2:Obj,o2.isFreed=false->o2.cls= .type "StopIteration"->E (.ref (s.heap.push o1).objs.size) {s with heap:=(s.heap.push o1).push o2}):aO (model G.p G.w) A (newExc (.type "StopIteration") []>>=λe=>(raiseNew e:Sem α)) Q E s:=by
 refine aA ?_
 unfold newExc newTuple
 refine aA (iL ?_ (by size_fits))
 exact aA (m:=firstArgMember _ _) (qY (a:=jD) (by first | rfl | (simp only [firstArgMember];rfl)) (iL (wpAny_raiseNew_none hh (k _ _ rfl rfl)) (by size_fits)))
theorem Zo {it t:Addr} {ws:Array aG} {Q:aG->aK->Prop} (hh:A.handled=none) (hit:s.heap.IsTupleIter it t i) (ht:s.heap.IsTuple t ws)
  (k1:∀x h',ws[i]? =some x->h'.IsTupleIter it t (i+1)->gJ it s.heap h'->Q x {s with heap:=h'})
  (k2:∀h' e,ws[i]? =none->Mw it s.heap h'->(∃o,h'.get? e=some o/\o.cls= .type "StopIteration")->E (.ref e) {s with heap:=h'}):aO (model G.p G.w) A (fW (.ref it)) Q E s:=by
 have hT:=hit.typeIs
 obtain ⟨oi,hoi,hci,hdi⟩:=id hit
 obtain ⟨ot,hot,_,nt,hdt⟩:=ht
 unfold fW
 refine aA (jY (name:=aZ "__next__") hT wM (fO wM hT F.entry_tuple_iterator_next ?_ (F.args_tuple_iterator_next_1 _)))
 show aO _ _ (field (.ref it) 0>>=λv=>if (v==jD)=true then _ else field (.ref it) 1>>=_) _ _ s
 refine aA (iU hoi hdi (x:= .ref t) rfl ?_)
 rw [if_neg (show ¬ ((pM t==jD)=true) from cP)]
 refine aA (iU hoi hdi (x:= .int i 0) rfl ?_)
 show aO _ _ (seqItems? (.ref t)>>=_) _ _ s
 refine aA (jR hot hdt ?_)
 cases hx:ws[i]? with
 | some x=>
  simp only [fS,hx]
  refine aA (rK hoi hdi (by simp) (aH ⟨x,rfl,aH (k1 x _ hx ⟨_,hM _ hoi (sM (lC hdi _)),(yD ..).trans hci,?_⟩ (gX ..))⟩))
  rw [lC hdi];simp [rawInt]
 | none=>
  simp only [fS,hx]
  refine aA (nE (aA (rK hoi hdi (by simp) ?_)))
  exact Qw (show A.in1.handled=none from hh) λo1 o2 hf hc=>k2 _ _ hx (((gX ..).extBut.push _).push _) ⟨_,bC _ hf,hc⟩
theorem Rf {it t:Addr} {ws:Array aG} {x:aG} {Q:aG->aK->Prop} (hh:A.handled=none) (hit:aAc b s.heap it t i) (ht:As b s.heap t ws) (hx:ws[i]? =some x)
  (k:∀h',aAc b h' it t (i+1)->gJ it s.heap h'->Q x {s with heap:=h'}):aO (model G.p G.w) A (fW (.ref it)) Q E s:=by
 cases b with
 | false=>exact wpAny_nextOf_list_item hit ht hx k
 | true=>exact Zo hh hit ht (λy h' e=>aF (hx.symm.trans e)▸k h') λY Y e=>cC (e.symm.trans hx)
theorem DY {it t:Addr} {ws:Array aG} {Q:aG->aK->Prop} (hh:A.handled=none) (hit:aAc b s.heap it t i) (ht:As b s.heap t ws) (hx:ws[i]? =none)
  (k:∀h' e,Mw it s.heap h'->(∃o,h'.get? e=some o/\o.cls= .type "StopIteration")->E (.ref e) {s with heap:=h'}):aO (model G.p G.w) A (fW (.ref it)) Q E s:=by
 cases b with
 | false=>exact wpAny_nextOf_list_end hh hit ht hx k
 | true=>exact Zo hh hit ht (λy h' e=>cC (hx.symm.trans e)) λh' e Y=>k h' e
theorem nn {n i j:Nat} (h:i≠j):@Ne Addr (n+i) (n+j):=λe=>h (Gg e)
theorem nl {l n:Nat} (h:l<n) (i:Nat):@Ne Addr l (n+i):=fX (bA h (aS n i))
noncomputable def Gi (n:Nat):List Addr:=[n+0,n+1,n+2,n+3,n+4]
theorem vV {c:Addr} (m:c∉Gi n):@Ne Addr c (n+0)/\@Ne Addr c (n+1)/\@Ne Addr c (n+3)/\@Ne Addr c (n+4):=⟨λe=>m (e▸ .head _),λe=>m (e▸ .tail _ (.head _)),λe=>m (e▸ .tail _ (.tail _ (.tail _ (.head _)))),λe=>m (e▸ .tail _ (.tail _ (.tail _ (.tail _ (.head _)))))⟩
structure Ku (b1 b2:Bool) (h:Heap) (n l1 l2:Nat) (xs ys:Array aG) (f0:aG) (i:Nat):Prop where
 z:Up h (n+4) (n+2) (n+3) f0
 ti:Ax h (n+2) (.ref (n+0)) (.ref (n+1))
 to:∃a b,Ax h (n+3) a b
 i1:aAc b1 h (n+0) l1 i
 i2:aAc b2 h (n+1) l2 i
 s1:As b1 h l1 xs
 s2:As b2 h l2 ys
 aNb:l1<n
 aOk:l2<n
theorem Ku.keep {f0:aG} (Z:Ku b1 b2 h n l1 l2 xs ys f0 i) (k:∀c∈l1::l2::Gi n,∀o,h.get? c=some o->h'.get? c=some o):Ku b1 b2 h' n l1 l2 xs ys f0 i:=
 have m {c:Addr} (q:c∈Gi n):=k c (.tail _ (.tail _ q))
 ⟨m (.tail _ (.tail _ (.tail _ (.tail _ (.head _))))) _ Z.z,m (.tail _ (.tail _ (.head _))) _ Z.ti,Z.to.imp λa q=>q.imp λb q=>m (.tail _ (.tail _ (.tail _ (.head _)))) _ q,Z.i1.at (m (.head _)),Z.i2.at (m (.tail _ (.head _))),Z.s1.at (k _ (.head _)),Z.s2.at (k _ (.tail _ (.head _))),Z.aNb,Z.aOk⟩
theorem AN {T:Addr} {a b x:aG} {k:Nat} {Q:Unit->aK->Prop} (hT:Ax s.heap T a b)
  (h:∀h',(k=0->Ax h' T x b)->(k=1->Ax h' T a x)->gJ T s.heap h'->Q () {s with heap:=h'}):aO (model G.p G.w) A (updateSeq T (·.setIfInBounds k x)) Q E s:=
 wpAny_updateSeq_pair hT λh' e sb=>h h' (λz=>by rw [z] at e;exact e) (λz=>by rw [z] at e;exact e) sb
theorem ML {x y:aG} {Q:Option aG->aK->Prop} (hh:A.handled=none) (Z:Ku b1 b2 s.heap n l1 l2 xs ys .none i) (hx:xs[i]? =some x) (hy:ys[i]? =some y)
  (k:∀h' T,s.heap.objs.size<=T->Ku b1 b2 h' n l1 l2 xs ys (rawInt T) (i+1)->Ax h' T x y->(∀c o,c∉Gi n->s.heap.get? c=some o->h'.get? c=some o)->Q (some (.ref T)) {s with heap:=h'}):
  aO (model G.p G.w) A (pyNext (.ref (n+4))) Q E s:=by
 obtain ⟨hz,hti,⟨a,b,hto⟩,hi1,hi2,hs1,hs2,t1,t2⟩:=Z
 have hT:s.TypeIs (.ref (n+4)) "zip":=⟨_,hz,rfl⟩
 unfold pyNext
 refine aA (Gn (jY (name:=aZ "__next__") hT uP (fO uP hT F.entry_zip_next ?_ (Iq _))))
 show aO _ _ (field (.ref (n+4)) 2>>=_) _ _ _
 refine aA (iU hz rfl (x:= .bool false) rfl ?_)
 show aO _ _ (field (.ref (n+4)) 3>>=_) _ _ _
 refine aA (iU hz rfl (x:= .ref (n+2)) rfl (aA (jR hti rfl ?_)))
 show aO _ _ (hN (.ref (n+4))>>=_) _ _ _
 unfold hN
 refine aA (aA (iU hz rfl (x:= .none) rfl (aH ?_)))
 simp only [if_true]
 refine aA (nE (aA (iU hz rfl (x:= .ref (n+3)) rfl (aA (nD hz (by simp) λg1 hz1 sb1=>aA ?_)))))
 replace hz1:Up g1 (n+4) (n+2) (n+3) .ellipsis:=hz1
 have d {i j:Nat} (h:decide (i=j)=false):@Ne Addr (n+i) (n+j):=nn (of_decide_eq_false h)
 have to1:Ax g1 (n+3) a b:=sb1.extBut _ _ (d rfl) hto
 have i11:=hi1.at λo e=>sb1.extBut _ _ (d rfl) e
 have s11:=hs1.at λo e=>sb1.extBut _ _ (nl t1 4) e
 simp only [Lb,Ny,kE,wQ]
 refine aA (aA (Gm ?_))
 show aO _ _ (fW (.ref (n+0))>>=_) _ _ _
 refine aA (Rf (s:={s with heap:=g1}) hh i11 s11 hx λg2 i12 sb2=>aH ?_)
 have to2:Ax g2 (n+3) a b:=sb2.extBut _ _ (d rfl) to1
 refine aA (jR to2 rfl (aA (AN (s:={s with heap:=g2}) to2 λg3 to3 Y sb3=>aA (wpAny_letGo (aH ?_)))))
 replace to3:=to3 rfl
 have k13 {c:Addr} {o:Obj} (c1:@Ne Addr c (n+4)) (c2:@Ne Addr c (n+0)) (c3:@Ne Addr c (n+3)) (e:s.heap.get? c=some o):g3.get? c=some o:=sb3.extBut _ _ c3 (sb2.extBut _ _ c2 (sb1.extBut _ _ c1 e))
 have i23:=hi2.at λo e=>k13 (d rfl) (d rfl) (d rfl) e
 have s23:=hs2.at λo e=>k13 (nl t2 4) (nl t2 0) (nl t2 3) e
 refine aA (aA (Gm ?_))
 show aO _ _ (fW (.ref (n+1))>>=_) _ _ _
 refine aA (Rf (s:={s with heap:=g3}) hh i23 s23 hy λg4 i24 sb4=>aH ?_)
 have to4:Ax g4 (n+3) x b:=sb4.extBut _ _ (d rfl) to3
 refine aA (jR to4 rfl (aA (AN (s:={s with heap:=g4}) to4 λg5 Y to5 sb5=>aA (wpAny_letGo (aH (aH ?_))))))
 replace to5:=to5 rfl
 refine aA (jR to5 rfl (aA (wH ?_)))
 have k15 {c:Addr} {o:Obj} (c1:@Ne Addr c (n+4)) (c2:@Ne Addr c (n+0)) (c3:@Ne Addr c (n+3)) (c4:@Ne Addr c (n+1)) (e:s.heap.get? c=some o):g5.get? c=some o:=sb5.extBut _ _ c3 (sb4.extBut _ _ c4 (k13 c1 c2 c3 e))
 have sz:g5.objs.size=s.heap.objs.size:=by rw [sb5.1,sb4.1,sb3.1,sb2.1,sb1.1]
 have z5:Up g5 (n+4) (n+2) (n+3) .ellipsis:=sb5.extBut _ _ (d rfl) (sb4.extBut _ _ (d rfl) (sb3.extBut _ _ (d rfl) (sb2.extBut _ _ (d rfl) hz1)))
 show aO _ _ (pX (.ref (n+4)) (.ref g5.objs.size)>>=_) _ _ _
 unfold pX
 have z6:Up (g5.push {cls:= .type "tuple",data:= .seq (#[x,y]:Array aG).toList.toArray}) (n+4) (n+2) (n+3) .ellipsis:=bI _ z5
 refine aA (aA (nD z6 (by simp) λg7 z7 sb7=> ?_))
 replace z7:Up g7 (n+4) (n+2) (n+3) (rawInt g5.objs.size):=z7
 refine nD z7 (by simp) λg8 z8 sb8=>aH ⟨_,rfl,?_⟩
 have up {c:Addr} {o:Obj} (c1:@Ne Addr c (n+4)) (e:g5.get? c=some o):g8.get? c=some o:=sb8.extBut _ _ c1 (sb7.extBut _ _ c1 (bI _ e))
 have hlt:n+4<g5.objs.size:=dG z5
 have hT8:Ax g8 g5.objs.size x y:=sb8.extBut _ _ (vO hlt) (sb7.extBut _ _ (vO hlt) (bC _ rfl))
 exact aH (k g8 g5.objs.size (bT sz.symm) ⟨z8,up (d rfl) (k15 (d rfl) (d rfl) (d rfl) (d rfl) hti),⟨x,y,up (d rfl) to5⟩,i12.at λo e=>up (d rfl) (sb5.extBut _ _ (d rfl) (sb4.extBut _ _ (d rfl) (sb3.extBut _ _ (d rfl) e))),i24.at λo e=>up (d rfl) (sb5.extBut _ _ (d rfl) e),hs1.at λo e=>up (nl t1 4) (k15 (nl t1 4) (nl t1 0) (nl t1 3) (nl t1 1) e),hs2.at λo e=>up (nl t2 4) (k15 (nl t2 4) (nl t2 0) (nl t2 3) (nl t2 1) e),t1,t2⟩ hT8
  λc o hc e=>up (vV hc).2.2.2 (k15 (vV hc).2.2.2 (vV hc).1 (vV hc).2.2.1 (vV hc).2.1 e))
theorem UI {f:aG} {Q:Option aG->aK->Prop} (hh:A.handled=none) (Z:Ku b1 b2 s.heap n l1 l2 xs ys .none i) (hx:xs[i]? =none)
  (k:∀h',(∀c o,c∉Gi n->s.heap.get? c=some o->h'.get? c=some o)->Q none {s with heap:=h'}):aO (model G.p G.w) A (pyNext (.ref (n+4))) Q E s:=by
 have hz:=Z.z
 have hT:s.TypeIs (.ref (n+4)) "zip":=⟨_,hz,rfl⟩
 unfold pyNext
 refine aA (Gn (jY (name:=aZ "__next__") hT uP (fO uP hT F.entry_zip_next ?_ (Iq _))))
 show aO _ _ (field (.ref (n+4)) 2>>=_) _ _ _
 refine aA (iU hz rfl (x:= .bool false) rfl ?_)
 show aO _ _ (field (.ref (n+4)) 3>>=_) _ _ _
 refine aA (iU hz rfl (x:= .ref (n+2)) rfl (aA (jR Z.ti rfl ?_)))
 show aO _ _ (hN (.ref (n+4))>>=_) _ _ _
 unfold hN
 refine aA (aA (iU hz rfl (x:= .none) rfl (aH ?_)))
 simp only [if_true]
 refine aA (nE (aA (iU hz rfl (x:= .ref (n+3)) rfl (aA (nD hz (by simp) λg1 hz1 sb1=>aA ?_)))))
 replace hz1:Up g1 (n+4) (n+2) (n+3) .ellipsis:=hz1
 have d {i j:Nat} (h:decide (i=j)=false):@Ne Addr (n+i) (n+j):=nn (of_decide_eq_false h)
 simp only [Lb,Ny,kE,wQ]
 refine aA (aA (Gm ?_))
 show aO _ _ (fW (.ref (n+0))>>=_) _ _ _
 refine aA (DY (s:={s with heap:=g1}) hh (Z.i1.at λo e=>sb1.extBut _ _ (d rfl) e) (Z.s1.at λo e=>sb1.extBut _ _ (nl Z.aNb 4) e) hx λg2 e x2 he=>he.elim λoe he=> ?_)
 have hz2:Up g2 (n+4) (n+2) (n+3) .ellipsis:=x2 _ _ (d rfl) hz1
 have hne:e≠n+4:=λx=>by
  rw [x] at he
  have q:=he.2
  rw [aF (he.1.symm.trans hz2)] at q
  exact absurd (Value.type.inj q) (by decide)
 exact nD hz2 (by simp) λg3 Y sb3=>aA (mN (T:="StopIteration") (b:=true) ⟨oe,sb3.extBut _ _ hne he.1,he.2⟩ isSubtype_stop (aH (k g3 λc o c1 e=>sb3.extBut _ _ (vV c1).2.2.2 (x2 _ _ (vV c1).1 (sb1.extBut _ _ (vV c1).2.2.2 e)))))
theorem KK (z:xs.size<=ys.size):TT G true (n+4) (Gi n) (l1::l2::Gi n) (λj h=>Ku b1 b2 h n l1 l2 xs ys .none j) (λj us=>∃x y,us=[x,y]/\xs[j]? =some x/\ys[j]? =some y) xs.size where
 item:=λA h tk j hh hj Z E Q c=>iB (ML (s:=G.at h tk) hh Z (fA hj) (fA (bA hj z)) λh' T hT Z' P kp sz=>c (.ref T) h' tk _ ⟨_,_,rfl,fA hj,fA (bA hj z)⟩ ⟨T,0,rfl,hT,P,(by decide:2<=bW)⟩ ⟨kp,sz⟩ λtarget ht E Q c=>
  (ht rfl).elim λl q=>q.elim λm q=>q.elim λp q=>by
   rw [q]
   exact wpAny_letOwnedTupleGo_zip (s:=G.at h' tk) Z'.z λh'' z'' sb=>c h'' ⟨z'',sb.extBut _ _ (nn (by decide)) Z'.ti,Z'.to.imp λa q=>q.imp λb q=>sb.extBut _ _ (nn (by decide)) q,Z'.i1.at λo e=>sb.extBut _ _ (nn (by decide)) e,Z'.i2.at λo e=>sb.extBut _ _ (nn (by decide)) e,Z'.s1.at λo e=>sb.extBut _ _ (nl Z'.aNb 4) e,Z'.s2.at λo e=>sb.extBut _ _ (nl Z'.aOk 4) e,Z'.aNb,Z'.aOk⟩
    ⟨λc o x e=>sb.extBut _ _ (vV x).2.2.2 e,bT sb.1.symm⟩)
 done:=λA h tk hh Z E Q c=>iB (UI (f:= .none) (s:=G.at h tk) hh Z (nJ (bM _)) λh' kp sz=>c h' tk ⟨kp,sz⟩)
 self:=λA h tk j hh Z E Q c=>wpAny_pyIter_zip (s:=G.at h tk) Z.z c
 frame:=λj h h' Z f=>Z.keep λc m o e=>f c m o e
end
section
variable {α β γ:Type} {G:Gr} {A:dT} {k k':List It} {st st':St} {s:aK} {h h':Heap} {mu:List Addr} {v u:V} {w w1 w2:aG} {E:aG->aK->Prop} {ρ:List (Nm×V)} {env:Env} {sc:gF} {X:Dg} {n i l1 l2:Nat} {e:Expr} {pos:Pos} {σ:Wd} {b b1 b2:Bool} {xs ys:Array aG}
noncomputable def Bj (h:Heap) (b1:Bool) (l1:Addr) (b2:Bool) (l2:Addr):Heap:=
 let g1:=h.push (Cu b1 l1)
 let g2:=g1.push (Cu b2 l2)
 let g3:=g2.push {cls:= .type "tuple",data:= .seq #[.ref h.objs.size,.ref g1.objs.size]}
 let g4:=g3.push {cls:= .type "tuple",data:= .seq #[.none,.none]}
 g4.push {cls:= .type "zip",data:= .fields #[.none,.bool false,.bool false,.ref g2.objs.size,.ref g3.objs.size]}
theorem DC (h1:As b1 h l1 xs) (h2:As b2 h l2 ys):Ku b1 b2 (Bj h b1 l1 b2 l2) h.objs.size l1 l2 xs ys .none 0/\Sub h (Bj h b1 l1 b2 l2)/\(Bj h b1 l1 b2 l2).objs.size=h.objs.size+5:=by
 unfold Bj
 dsimp only
 generalize e1:h.push (Cu b1 l1)=g1
 have p1:g1.get? (h.objs.size+0)=some (Cu b1 l1):=e1▸bC _ rfl
 have s1:g1.objs.size=h.objs.size+1:=e1▸cO ..
 have k1:Sub h g1:=e1▸Sub.push _ _
 generalize e2:g1.push (Cu b2 l2)=g2
 have p2:g2.get? (h.objs.size+1)=some (Cu b2 l2):=s1▸e2▸bC _ rfl
 have s2:g2.objs.size=h.objs.size+2:=by rw [<-e2,cO,s1]
 have k2:Sub g1 g2:=e2▸Sub.push _ _
 rw [s1]
 generalize e3:g2.push {cls:= .type "tuple",data:= .seq #[.ref h.objs.size,.ref (h.objs.size+1)]}=g3
 have p3:g3.get? (h.objs.size+2)=some {cls:= .type "tuple",data:= .seq #[.ref h.objs.size,.ref (h.objs.size+1)]}:=s2▸e3▸bC _ rfl
 have s3:g3.objs.size=h.objs.size+3:=by rw [<-e3,cO,s2]
 have k3:Sub g2 g3:=e3▸Sub.push _ _
 generalize e4:g3.push {cls:= .type "tuple",data:= .seq #[.none,.none]}=g4
 have p4:g4.get? (h.objs.size+3)=some {cls:= .type "tuple",data:= .seq #[.none,.none]}:=s3▸e4▸bC _ rfl
 have s4:g4.objs.size=h.objs.size+4:=by rw [<-e4,cO,s3]
 have k4:Sub g3 g4:=e4▸Sub.push _ _
 rw [s2,s3]
 generalize e5:g4.push {cls:= .type "zip",data:= .fields #[.none,.bool false,.bool false,.ref (h.objs.size+2),.ref (h.objs.size+3)]}=g5
 have p5:g5.get? (h.objs.size+4)=some {cls:= .type "zip",data:= .fields #[.none,.bool false,.bool false,.ref (h.objs.size+2),.ref (h.objs.size+3)]}:=s4▸e5▸bC _ rfl
 have k5:Sub g4 g5:=e5▸Sub.push _ _
 have k35:Sub g2 g5:=λa o e=>k5 a o (k4 a o (k3 a o e))
 have k05:Sub h g5:=λa o e=>k35 a o (k2 a o (k1 a o e))
 have it {b:Bool} {l c:Addr} (e:g5.get? c=some (Cu b l)):aAc b g5 c l 0:=by cases b<;>exact ⟨_,e,rfl,rfl⟩
 exact ⟨⟨p5,k5 _ _ (k4 _ _ p3),⟨_,_,k5 _ _ p4⟩,it (k35 _ _ (k2 _ _ p1)),it (k35 _ _ p2),h1.at λo e=>k05 _ _ e,h2.at λo e=>k05 _ _ e,h1.lt,h2.lt⟩,k05,by rw [<-e5,cO,s4]⟩
theorem UG {Q:aG->aK->Prop} (h1:As b1 s.heap l1 xs) (h2:As b2 s.heap l2 ys) (k:Q (.ref (s.heap.objs.size+4)) {s with heap:=Bj s.heap b1 l1 b2 l2}):aO (model G.p G.w) A (call (.type "zip") [.ref l1,.ref l2]) Q E s:=by
 have Z:=DC h1 h2
 refine callType_newIn (S:=λA R s'=>s'=s/\R (.ok (.ret (.ref (s.heap.objs.size+4)))) {s with heap:=Bj s.heap b1 l1 b2 l2}) F.called_zip (by decide) (F.typeCall_zip_2 _ _) (F.newCall_zip_2 _ _) (λobj=>F.args_object_init_3 obj _ _) F.entry_zip_new (MeetsIn.of_wp ?_) ⟨rfl,⟨_,Z.1.z,rfl⟩,k⟩
 rintro A' R s' ⟨rfl,hR⟩
 have hsub:=sub_zip
 obtain ⟨hp,g,d,tk,os⟩:=s'
 have hL1:As b1 (Dj ⟨hp,g,d,tk,os⟩) l1 xs:=h1
 have hL2:As b2 (Dj ⟨hp.push (Cu b1 l1),g,d,tk,os⟩) l2 ys:=h2.at λo e=>bI _ e
 wp_walk using GZ hL1,GZ hL2
 refine ⟨_,rfl,?_⟩
 have hz:hp.objs.size+4=((((hp.push (Cu b1 l1)).push (Cu b2 l2)).push {cls:= .type "tuple",data:= .seq #[.ref hp.objs.size,.ref (hp.push (Cu b1 l1)).objs.size]}).push {cls:= .type "tuple",data:= .seq #[.none,.none]}).objs.size:=by rw [cO,cO,cO,cO]
 rw [hz] at hR
 exact hR
theorem GQ {a:Addr} {ws:Array aG} (hs:h.IsTuple a ws\/h.IsList a ws):∃b,As b h a ws:=hs.elim (λq=>⟨true,q⟩) λq=>⟨false,q⟩
theorem GO {P:Addr->Prop} {x:aE} {l:List aE} (d:Dt h P x w) (e:Kj x=some l):∃a ws o,w= .ref a/\P a/\h.get? a=some o/\(h.IsTuple a ws\/h.IsList a ws)/\jM h P l ws.toList/\l.length<=bW:=by
 have go {T:String} (sq:Mr h P T l.length (jM h P l) w) (hT:T="tuple"\/T="list"):∃a ws o,w= .ref a/\P a/\h.get? a=some o/\(h.IsTuple a ws\/h.IsList a ws)/\jM h P l ws.toList/\l.length<=bW:=Mr.elim sq λa vs z ew sq d=>sq.elim λo n po g cl dt Y=>⟨a,vs,o,ew,po,g,hT.imp (λe=>⟨o,g,by rw [cl,e],n,dt⟩) λe=>⟨o,g,by rw [cl,e],n,dt⟩,d,z⟩
 exact (BR e).elim (λq=>go (T:="tuple") (by rw [q] at d;exact d) (.inl rfl)) λq=>go (T:="list") (by rw [q] at d;exact d) (.inr rfl)
theorem UF {xs ys:List aE} {x:aE} {j:Nat} (e:((xs.zip ys).map λp=>rO [p.1,p.2])[j]? =some x):∃a b,xs[j]? =some a/\ys[j]? =some b/\x= .tuple [a,b]:=by
 rw [lU] at e
 exact (bO.mp e).elim λp q=>⟨p.1,p.2,(xW.mp q.1).1,(xW.mp q.1).2,q.2.symm⟩
theorem Iv.zip {x y:aE} {xl yl:List aE} (I:Iv G st k h mu) (h1:As b1 h l1 xs) (h2:As b2 h l2 ys) (o1:Wd.out ⟨mu,bP k⟩ l1) (o2:Wd.out ⟨mu,bP k⟩ l2) (d1:jM h (Wd.out ⟨mu,bP k⟩) xl xs.toList) (d2:jM h (Wd.out ⟨mu,bP k⟩) yl ys.toList) (z:xl.length<=yl.length):
  Iv G st (.it true (h.objs.size+4) (Gi h.objs.size) [] ((xl.zip yl).map λp=> .tuple [p.1,p.2])::k) (Bj h b1 l1 b2 l2) mu:=by
 have Z:=DC h1 h2
 have z1:xs.size=xl.length:=bH.symm.trans d1.len
 have z2:ys.size=yl.length:=bH.symm.trans d2.len
 have ow {a:Addr} (m:a∈Gi h.objs.size):∃i,i<5/\a=h.objs.size+i:=by
  rcases aJ.mp m with e | m
  ·exact ⟨0,by decide,e⟩
  rcases aJ.mp m with e | m
  ·exact ⟨1,by decide,e⟩
  rcases aJ.mp m with e | m
  ·exact ⟨2,by decide,e⟩
  rcases aJ.mp m with e | m
  ·exact ⟨3,by decide,e⟩
  ·exact ⟨4,by decide,aC.mp m⟩
 have nd:(Gi h.objs.size).Nodup:=by
  have e:Gi h.objs.size=[0,1,2,3,4].map (h.objs.size+ ·):=rfl
  rw [e,List.Nodup,lT]
  exact (by decide:[0,1,2,3,4].Nodup).imp λq e=>q (Gg e)
 have ea:bP [It.it true (h.objs.size+4) (Gi h.objs.size) [] ((xl.zip yl).map λp=> .tuple [p.1,p.2])]=Gi h.objs.size:=cN _
 refine Iv.same (p:=[]) (p':=[.it true (h.objs.size+4) (Gi h.objs.size) [] _]) (wr:=[]) I ⟨λa o Y e=>Z.2.1 a o e,Z.2.2▸aS _ _⟩ cB (λa m=>(ow (ea▸m)).elim λi q=> .inr (by rw [q.2];exact aS _ _)) (λa m=>(ow (ea▸m)).elim λi q=>by rw [q.2,Z.2.2];exact vH q.1 _) (ea.symm▸nd) cB .nil cB λK i m=> ?_
 rw [aC.mp m]
 have pl {l:Nat} {b:Bool} {ws:Array aG} (o:Wd.out ⟨mu,bP k⟩ l) (q:As b h l ws):∃ob,h.get? l=some ob:=by cases b<;>exact aU q λob r=>⟨ob,r.1⟩
 refine ⟨λj h=>Ku b1 b2 h _ l1 l2 xs ys .none j,λj us=>∃x y,us=[x,y]/\xs[j]? =some x/\ys[j]? =some y,0,l1::l2::Gi h.objs.size,?_,Z.1,λb hb=>(aJ.mp hb).elim (λe=> .inr (.inl ?_)) λhb=>(aJ.mp hb).elim (λe=> .inr (.inl ?_)) .inl,λj x us e q=> ?_⟩
 ·rw [eH,aI,Nz,uT z,<-z1]
  exact KK (z1▸z2▸z)
 ·rw [e];exact (pl o1 h1).elim λob g=>⟨(K.k _ _ o1 g).1,ob,(K.k _ _ o1 g).2⟩
 ·rw [e];exact (pl o2 h2).elim λob g=>⟨(K.k _ _ o2 g).1,ob,(K.k _ _ o2 g).2⟩
 ·refine (UF e).elim λa p=>p.elim λc p=>aU q λu q=>q.elim λu' q=>(d1.get p.1).elim λw r1=>(d2.get p.2.1).elim λw' r2=> ?_
  have q1:=eS.trans (eH j▸q.2.1)
  have q2:=eS.trans (eH j▸q.2.2)
  rw [q.1,p.2.2]
  exact jM.cons (aF (q1.symm.trans r1.1)▸K.dt r1.2) (jM.one (aF (q2.symm.trans r2.1)▸K.dt r2.2))
theorem QF {it:Ex} {p:List aE×Option Nat} {Q:aG->aK->Prop} (S:kT G X n) (C:Cx G n A sc env ρ k) (hc:lM sc it e=true) (he:Np (X.E ρ) it st=some (p,st')) (I:Inv G st k s) (c:∀a os s',p.1.length<=bW->Inv G st' (.it (vM it).isSome a os p.2.toList p.1::k) s'->Q (.ref a) s'):
  aO (model G.p G.w) A (eval e env) (λx s₁=>aO (model G.p G.w) A (pyIter x) Q E s₁) E s:=by
 have plain (hz:vM it=none):aO (model G.p G.w) A (eval e env) (λx s₁=>aO (model G.p G.w) A (pyIter x) Q E s₁) E s:=by
  unfold Np at he
  rw [hz] at he c
  exact cE he λv s1 e1 he=>S.go hc C e1 I λw s I=>XJ he I (.head _) λa s' z I=>c a [a] s' z (Inv.sub I Zj)
 cases it with
 | zip a b=>
  refine iJ (P:=λe=>aO _ A (eval e env) _ E s) hc λF hc=> ?_
  have c1:=cQ hc
  have c2:=cQ c1.1
  show aO _ A (eval (.Call F.x F.l F.kw F.pos) env) _ E s
  rw [Jy c2.1]
  refine Co c1.2 λpr ep h3=> ?_
  rw [twoE ep]
  have h3:=cQ h3
  have h4:=cQ h3.1
  have h5:=cQ h4.1
  refine Inv.elim I λh tk mu I=>Aq c2.2 C I ⟨C.B.Ta _ (by decide),C.B.FI "zip" (by decide)⟩ ?_
  rw [CJ h5.1,CJ h5.2]
  refine cE he λv1 s1 e1 he=>cE he λv2 s2 e2 he=>Jw he λx xl ex ex2 he=>Jw he λy yl ey ey2 he=>fB he λg he=>iR rfl (oR (rR (S.go h4.2 C e1 (Inv.at I) λw1 s I=>rR (S.go h3.2 C.on e2 I λw2 s I=>Inv.elim I λh tk mu I=>Dm ?_))))
  refine (GO (Rep.d' (I.has (v:=v1) (.tail _ (.head _))) ex) ex2).elim λa1 p=>p.elim λws1 p=>p.elim λo1 p=>(GO (Rep.d' (I.has (v:=v2) (.head _)) ey) ey2).elim λa2 q=>q.elim λws2 q=>q.elim λo2 q=>(GQ p.2.2.2.1).elim λb1 j1=>(GQ q.2.2.2.1).elim λb2 j2=> ?_
  show aO _ A (call (.type "zip") [w1,w2]) _ E _
  rw [p.1,q.1]
  refine UG (s:=G.at h tk) j1 j2 ?_
  have J:=Iv.zip (x:=x) (y:=y) I j1 j2 p.2.1 q.2.1 p.2.2.2.2.1 q.2.2.2.2.1 (of_decide_eq_true g)
  refine wpAny_pyIter_zip (s:=G.at _ tk) (DC j1 j2).1.z (c _ (Gi h.objs.size) _ (pureE (P:=λp Y=>p.1.length<=bW) he (by rw [aI,Nz];exact aB (Cg _ _) p.2.2.2.2.2)) ?_)
  refine pureE (P:=λp st'=>Inv G st' (.it true _ _ p.2.toList p.1::k) _) he (Inv.at (J.sub (.cons_cons _ (.cons _ Ij))))
 | _=>exact plain rfl
theorem US {f:Fl×List (Nm×V)} {g:Flow} {fr:Option Nat} (I:Inv G st (Df env (.fz fr.toList::k) f g) s) (e:Og fr st=some ((),st')):Inv G st' (Df env k f g) s:=by
 revert I
 unfold Df
 cases f.1 with
 | next=>cases g with
  | next=>exact λI=>Ot (Inv.perm I (.swap _ _ _)) e
  | _=>exact λI=>yP (f:= .next) I rfl
 | ret u=>cases g with
  | ret w=>exact λI=>Ot (Inv.perm I (((cY _ _ _).cons _).trans (.swap _ _ _))) e
  | _=>exact λI=>yP (f:= .ret u) I rfl
theorem aJl {t:Tg} {te:Expr} {it:Ex} {body:List Sx} {bodyS:List Stmt} (C:Fx G n A sc env) (S:kT G X n) (SB:CV G X n) (hct:Zk sc t te=true) (hci:lM sc it e=true) (hp:isPlain e=true) (hcb:EY sc body bodyS=true) (hz:((vM it).isNone||Xx t)=true):
  RR G A (.fr env ρ::k) (Np (X.E ρ) it>>=λp=>forL X.B t body p.1 ρ>>=λr=>Og p.2>>=λY=>pure r) (exec (.For te e bodyS [] pos) env) (Df env k):=λst f st' he s E I=>
 cE he λp s1 e1 he=>cE he λr s2 e2 he=>cE he λY s3 e3 he=>wpAny_For (QF S C.cx hci e1 I λa os s Y I=>QV (z:=(vM it).isSome) (rs:=p.2.toList) C SB hct hcb (λz=>by
   cases q:vM it with
   | none=>rw [q] at z;exact lH z
   | some _=>rw [q] at hz;exact hz) e2 (Inv.perm I (.swap _ _ _)) λg s I=>pureE (P:=λf st'=>Inv G st' (Df env k f g) s) he (US I e3)) (Bx hp)
end
section
variable {α β γ:Type} {G:Gr} {A:dT} {k k':List It} {st st':St} {s:aK} {h h':Heap} {mu:List Addr} {v u:V} {w w1 w2:aG} {E:aG->aK->Prop} {ρ b:List (Nm×V)} {env:Env} {sc sc':gF} {X:Dg} {n:Nat} {e:Expr} {pos:Pos} {σ:Wd} {t:Tg} {C:Addr} {cl:List (Str×Addr)}
theorem JX {p:Nm×V} (b:List (Nm×V)):∀ρ:List (Nm×V),p.1∉b.map (·.1)->mL b (p::ρ)=p::mL b ρ:=by
 induction b with
 | nil=>exact λY Y=>rfl
 | cons q b i=>
  intro ρ m
  show mL b (mT q.1 q.2 (p::ρ))=p::mL b (mT q.1 q.2 ρ)
  rw [kZ,if_neg λe:q.1=p.1=>m (by rw [<-e];exact .head _),i _ λx=>m (.tail _ x)]
theorem JY (b:List (Nm×V)):∀ρ:List (Nm×V),ρ.map (·.1)=b.map (·.1)->(b.map (·.1)).Nodup->mL b ρ=b:=by
 induction b with
 | nil=>exact λρ e Y=>vI.mp e
 | cons q b i=>
  intro ρ e nd
  have nd:=bV.mp nd
  cases ρ with
  | nil=>exact nomatch e
  | cons p ρ=>
   have e:=fR e
   show mL b (mT q.1 q.2 (p::ρ))=q::b
   rw [kZ,if_pos e.1.symm,JX (p:=(q.1,q.2)) b ρ nd.1,i ρ e.2 nd.2]
theorem FJ (t:Tg):∀ (x:aE) (b:List (Nm×V)),sK t x=some b->b.map (·.1)=pB t:=
 GJ (M:=λt=>∀ (x:aE) (b:List (Nm×V)),sK t x=some b->b.map (·.1)=pB t) (N:=λts=>∀ (xs:List aE) (b:List (Nm×V)),Ph ts xs=some b->b.map (·.1)=Hr ts)
  (λy x b e=>by rw [<-aF e];rfl) (λts i x b e=>(bR.mp e).elim λl q=>i l b q.2) (λY Y Y Y e=>cC e) (λY Y Y Y e=>cC e)
  (λxs b e=>by
   cases xs with
   | nil=>rw [<-aF e];rfl
   | cons _ _=>exact cC e)
  (λt ts i j xs b e=>by
   cases xs with
   | nil=>exact cC e
   | cons x xs=>exact (bR.mp e).elim λa q=>(bO.mp q.2).elim λc q'=>by rw [<-q'.2,cS,i x a q.1,j xs c q'.1];rfl) t
theorem sF {y:Nm} (a:List (Nm×V)):(a++ρ).lookup y=(a.lookup y).or (ρ.lookup y):=by
 induction a with
 | nil=>rfl
 | cons p a i=>
  rw [Lh,jK,jK]
  by_cases q:y=p.1
  ·rw [if_pos q,if_pos q];rfl
  ·rw [if_neg q,if_neg q];exact i
theorem Ke {y:Nm} (a:List (Nm×V)):y∈a.map (·.1)->∃v,a.lookup y=some v:=by
 induction a with
 | nil=>exact λm=>nomatch m
 | cons p a i=>
  intro m
  rw [jK]
  by_cases q:y=p.1
  ·rw [if_pos q];exact ⟨_,rfl⟩
  ·rw [if_neg q];exact i ((aJ.mp m).resolve_left q)
theorem Wx {x:Str}:(relabel sc' env).names.lookup x=(sc'.names.lookup x).map λk=>if (k== .free&&env.scope.kind== .function&&env.kindOf x==some .cell)=true then qE else k:=by
 show (sc'.names.map λ(n,k)=>if (k==mG&&env.scope.kind== .function&&env.kindOf n==some .cell)=true then (n,qE) else (n,k)).lookup x=_
 induction sc'.names with
 | nil=>rfl
 | cons p r i=>
  rw [dX,pO]
  have e1:(if (p.2==mG&&env.scope.kind== .function&&env.kindOf p.1==some .cell)=true then (p.1,qE) else (p.1,p.2))=(p.1,if (p.2==mG&&env.scope.kind== .function&&env.kindOf p.1==some .cell)=true then qE else p.2):=by split<;>rfl
  show List.lookup x ((if (p.2==mG&&env.scope.kind== .function&&env.kindOf p.1==some .cell)=true then (p.1,qE) else (p.1,p.2))::_)=_
  rw [e1,pO,pO]
  cases q:x==p.1 with
  | true=>rw [beq_iff_eq.mp q];rfl
  | false=>exact i
structure UE (env:Env) (sc':gF) (t:Tg):Prop where
 kind:sc'.kind= .function
 nd:(pB t).Nodup
 own:∀y∈pB t,sc'.names.lookup y.str=some .local/\tD y.str=true
 aEl:∀x,sc'.names.lookup x≠some .cell
 mem:∀p∈sc'.names,p.2≠ .cell
 loc:∀p∈sc'.names,p.2= .local->sc'.names.lookup p.1=some .local
 aKu:∀y:Nm,sc'.names.lookup y.str=some .local->tD y.str=true->y∈pB t
 free:∀p∈sc'.names,p.2= .free->env.kindOf p.1=some .cell/\∃y:Nm,y.str=p.1
theorem UE.of (F:MK env sc) (h:Yp sc sc' t=true):UE env sc' t:=by
 have c3:=cQ h
 have c2:=cQ c3.1
 have c1:=cQ c2.1
 have each (p:Str×rP) (m:p∈sc'.names):=dH.mp c3.2 p m
 have cell (p:Str×rP) (m:p∈sc'.names):p.2≠ .cell:=λe=>by
  have q:=each p m
  rw [e] at q
  exact lH q
 refine ⟨of_decide_eq_true c1.1,of_decide_eq_true c1.2,λy m=> ?_,λx e=>cell _ (eY e) rfl,cell,λp m e=> ?_,λy e d=> ?_,λp m e=> ?_⟩
 ·have q:=cQ (dH.mp c2.2 y m)
  exact ⟨of_decide_eq_true q.1,q.2⟩
 ·have q:=each p m
  rw [e] at q
  exact of_decide_eq_true (cQ q).1
 ·have q:=each _ (eY e)
  refine (gY.mp (cQ q).2).elim (λq=> ?_) λq=>(mP.mp q).elim λx q=>Re _ _ (of_decide_eq_true q.2)▸q.1
  have q:(!tD y.str)=true:=q
  rw [d] at q
  exact lH q
 ·have q:=each p m
  rw [e] at q
  have q:=cQ q
  have l:sc.names.lookup p.1=some .cell:=of_decide_eq_true q.1
  have kk:knd (env.kindOf p.1)=1:=by rw [(F.sc _).1,kn,l];rfl
  exact ⟨(Xt kk (F.nf _)).resolve_left ((F.sc _).2 (by rw [l];decide)),_,of_decide_eq_true q.2⟩
theorem EX (names:List (Str×rP)):∀cs:List (Str×Addr),(∀p∈names,p.2= .free->∃a,env.cells.lookup p.1=some a)->(∀p∈cs,env.cells.lookup p.1=some p.2)->
  ∃cl,(forIn names cs λx __s=>if (x.snd==mG)=true then do
    let a<-cellOf env x.fst
    pure (hW ((x.fst,a)::__s))
   else pure (hW __s):Sem (List (Str×Addr)))=pure cl/\(∀p∈cl,env.cells.lookup p.1=some p.2)/\(∀p∈cs,p∈cl)/\(∀p∈names,p.2= .free->∃a,(p.1,a)∈cl):=by
 induction names with
 | nil=>exact λcs Y hc=>⟨cs,rfl,hc,λY h=>h,λY h=>(nomatch h)⟩
 | cons p r i=>
  intro cs hn hc
  by_cases hk:p.2= .free
  ·refine (hn p (.head _) hk).elim λa ha=>(i ((p.1,a)::cs) (λq m=>hn q (.tail _ m)) λq m=>(aJ.mp m).elim (λe=>e▸ha) (hc q)).elim λcl c=>⟨cl,?_,c.2.1,λq m=>c.2.2.1 q (.tail _ m),λq m f=>(aJ.mp m).elim (λe=>⟨a,e▸c.2.2.1 _ (.head _)⟩) λm=>c.2.2.2 q m f⟩
   have ce:cellOf env p.1=pure a:=by unfold cellOf;rw [ha]
   rw [kE,hk,if_pos (by rfl),ce]
   exact c.1
  ·refine (i cs (λq m=>hn q (.tail _ m)) hc).elim λcl c=>⟨cl,?_,c.2.1,c.2.2.1,λq m f=>(aJ.mp m).elim (λe=>absurd (e▸f) hk) λm=>c.2.2.2 q m f⟩
   rw [kE,if_neg λe=>hk (beq_iff_eq.mp e)]
   exact c.1
noncomputable def TY (env:Env) (sc':gF) (cl:List (Str×Addr)):Prop:=closureFor sc' env=pure cl/\(∀p∈cl,env.cells.lookup p.1=some p.2)/\∀p∈sc'.names,p.2= .free->∃a,(p.1,a)∈cl
theorem EW (ck:UE env sc' t) (R:To G h σ env ρ):∃cl,TY env sc' cl:=by
 refine (EX (env:=env) sc'.names [] (λp m e=>(ck.free p m e).2.elim λy ey=>(R y (ey▸(ck.free p m e).1)).elim λa q=>q.elim λc q=>q.elim λo q=>⟨a,ey▸q.1⟩) λY h=>nomatch h).elim λcl c=>⟨cl,?_,c.2.1,c.2.2.2⟩
 simp only [closureFor]
 rw [c.1]
 rfl
theorem Ao {x:Str}:(compEnvC sc' cl C env).kindOf x=(sc'.names.lookup x).map λk=>if (k== .free&&env.scope.kind== .function&&env.kindOf x==some .cell)=true then qE else k:=Wx
theorem RP (F:MK env sc) (ck:UE env sc' t):MK (compEnvC sc' cl C env) sc':=by
 refine ⟨ck.kind,F.glob,F.blt,λx=> ?_,λx=> ?_⟩
 ·rw [Ao,kn]
  cases e:sc'.names.lookup x with
  | none=>exact ⟨rfl,λY=>(nomatch ·)⟩
  | some kk=>
   show knd (some (if _ then _ else _))=_/\(_->some (if _ then _ else _)≠_)
   by_cases hc:(kk==mG&&env.scope.kind== .function&&env.kindOf x==some .cell)=true
   ·rw [if_pos hc,beq_iff_eq.mp (cQ (cQ hc).1).1];exact ⟨rfl,λY=>(nomatch ·)⟩
   ·rw [if_neg hc];exact ⟨rfl,λh=>h⟩
 ·rw [Ao]
  cases e:sc'.names.lookup x with
  | none=>exact (nomatch ·)
  | some kk=>
   show some (if _ then _ else _)≠_
   by_cases hc:(kk==mG&&env.scope.kind== .function&&env.kindOf x==some .cell)=true
   ·rw [if_pos hc];exact (nomatch ·)
   ·rw [if_neg hc]
    intro q
    refine hc ?_
    have q:=aF q
    rw [q] at e⊢
    have:=(ck.free _ (eY e) rfl).1
    rw [F.kind,show env.kindOf x=some .cell from this]
    rfl
theorem ET {y:Nm} (e:(compEnvC sc' cl C env).kindOf y.str=some .local):sc'.names.lookup y.str=some .local:=by
 rw [Ao] at e
 refine (bO.mp e).elim λkk q=> ?_
 have q2:=q.2
 split at q2
 ·exact nomatch q2
 ·rw [q.1,q2]
theorem LH (ck:UE env sc' t) {y:Nm} (e:(compEnvC sc' cl C env).kindOf y.str=some .cell):sc'.names.lookup y.str=some .free/\env.kindOf y.str=some .cell:=by
 rw [Ao] at e
 refine (bO.mp e).elim λkk q=> ?_
 have q2:=q.2
 split at q2
 ·rename_i hc
  exact ⟨by rw [q.1,beq_iff_eq.mp (cQ (cQ hc).1).1],beq_iff_eq.mp (cQ hc).2⟩
 ·exact absurd (q2▸q.1) (ck.aEl _)
theorem RO (F:MK env sc) (ck:UE env sc' t) (hcl:TY env sc' cl) (V:JD G env ρ k) (hb:b.map (·.1)=pB t) (m:It.ns C b∈k):JD G (compEnvC sc' cl C env) (b++ρ) k:=λh σ f=>by
 have nb:MJ G h σ C (λY=>True) b:=f _ m
 refine ⟨nb.elim λmm p=>⟨mm,p.1,λy v e n l=> ?_⟩,λy hy=> ?_⟩
 ·refine (Ke b (hb▸ck.aKu y (ET l.1) l.2)).elim λv' q=>p.2 y v ?_ n trivial
  rw [sF,q] at e
  rw [q]
  exact e
 ·have c:=LH ck hy
  have mf:=eY c.1
  refine ((V h σ f).2 y c.2).elim λa q=>q.elim λcc q=>q.elim λo q=>(hcl.2.2 _ mf rfl).elim λa' ma=> ?_
  have la:cl.lookup y.str=some a:=by
   refine (hU.mp (Km cl (aT.mpr ⟨_,ma,rfl⟩))).elim λc' e=> ?_
   rw [e,<-q.1]
   exact (hcl.2.1 _ (eY e)).symm
  refine ⟨a,cc,o,la,q.2.1,q.2.2.1,λv e n=>q.2.2.2 v ?_ n⟩
  rw [sF] at e
  cases z:b.lookup y with
  | none=>rw [z] at e;exact e
  | some v'=>
   have:=(ck.own y (hb▸Vi b z)).1
   rw [c.1] at this
   exact nomatch this
end
section
variable {α β γ:Type} {G:Gr} {A:dT} {k k':List It} {st st':St} {s:aK} {h h':Heap} {mu:List Addr} {v u:V} {w w1 w2:aG} {E:aG->aK->Prop} {ρ b:List (Nm×V)} {env:Env} {sc sc':gF} {X:Dg} {n:Nat} {e:Expr} {pos:Pos} {σ:Wd} {t:Tg} {C D:Addr} {cl:List (Str×Addr)}
theorem KQ {Q:Bool->aK->Prop} (es:List Expr) (c:Q false s):aO (model G.p G.w) A (forIn es false λc r=>if r=true then do let ok<-isTrue c env (eval c env);pure (hW ok) else pure (hW r)) Q E s:=by
 induction es with
 | nil=>rw [wQ];exact aH c
 | cons e es i=>
  rw [kE,if_neg cP]
  exact aA (aH i)
theorem UX (T:Ih G X n) (C:Cx G n A sc env ρ k) (xs:List Ex):∀es:List Expr,Fy sc xs es=true->RR G A k (XP (X.E ρ) xs) (forIn es true λc r=>if r=true then do let ok<-isTrue c env (eval c env);pure (hW ok) else pure (hW r)) (Tr k):=by
 induction xs with
 | nil=>
  intro es hc st b st' he s E I
  rw [cJ.mp hc,wQ]
  exact aH (pureE (P:=λb st'=>Inv G st' (Tr k b true) s) he (Tr.mk rfl I))
 | cons x xs i=>
  intro es hc st b st' he s E I
  refine Ug (P:=λes=>aO _ A (forIn es true _) _ E s) hc λe r Y h1 h2=>cE he λv s1 e1 he=>cE he λt s2 e2 he=> ?_
  rw [kE,if_pos rfl]
  refine aA (aA (T.go h1 C (aY e1 e2) I λs I=>aH ?_))
  cases t with
  | false=>exact KQ r (pureE (P:=λb st'=>Inv G st' (Tr k b false) s) he (Tr.mk rfl I))
  | true=>exact (i r h2).go he I λY Y I=>I
theorem BV {elt target iter:Expr} {ifs:List Expr} {scope:gF} {I:Addr} {acc:aG} {R:wJ->aK->Prop} (J:Nat->aK->Prop)
  (turn:∀n s,J n s->aO (model G.p G.w) A (pyNext (.ref I)) (λr s₁=>match r with
   | none=>R (.ok .next) s₁
   | some v=>aO (model G.p G.w) A (letOwnedTupleGo target (.ref I) v) (λY s₁'=>aO (model G.p G.w) A (assign target env v) (λY s₂=>
     aO (model G.p G.w) A (forIn ifs true λc r=>if r=true then do let ok<-isTrue c env (eval c env);pure (hW ok) else pure (hW r)) (λok s₃=>
      if ok=true then aO (model G.p G.w) A (eval elt env) (λx s₄=>
       aO (model G.p G.w) A (call (.builtin "list.append") [acc,x]) (λY s₅=>∃m,m<n/\J m s₅) (notedBy (model G.p G.w) A env λe s'=>R (.error e) s') s₄) (notedBy (model G.p G.w) A env λe s'=>R (.error e) s') s₃
      else ∃m,m<n/\J m s₃) (notedBy (model G.p G.w) A env λe s'=>R (.error e) s') s₂) (notedBy (model G.p G.w) A env λe s'=>R (.error e) s') s₁') (notedBy (model G.p G.w) A env λe s'=>R (.error e) s') s₁) (notedBy (model G.p G.w) A env λe s'=>R (.error e) s') s)
  (n:Nat) (h:J n s):
  codeAny (model G.p G.w) A (.compLoop (.ListComp elt [⟨target,iter,ifs,0⟩] scope pos) 0 (.ref I) acc env) R s:=by
 refine codeAny_loop rfl J (λn s hI=> ?_) n h
 show aO _ A ((compTurn (.ListComp elt [⟨target,iter,ifs,0⟩] scope pos) 0 (.ref I) acc env).onRaise (λx=>do noteFrame x env;theTreesLotGoes x)) _ _ s
 refine wpAny_noted ?_
 rw [compTurn_list]
 refine aA (eD (aA (gN (turn n s hI) (λr s₁ h₁=> ?_) λY Y h'=>h')))
 cases r with
 | none=>exact aH h₁
 | some v=>
  refine aA (gN h₁ (λY s₁' h₁'=>aA (gN h₁' (λY s₂ h₂=>aA (gN h₂ (λok s₃ h₃=> ?_) λY Y h'=>h')) λY Y h'=>h')) λY Y h'=>h')
  cases ok with
  | false=>exact aH ⟨rfl,h₃⟩
  | true=>exact aA (aA (gN h₃ (λx s₄ h₄=>aA (gN h₄ (λY s₅ h₅=>aH (aH ⟨rfl,h₅⟩)) λY Y h'=>h')) λY Y h'=>h'))
theorem TI {ys:List aE} {y:aE} {Q:aG->aK->Prop} (I:Inv G st (.v (.d y) w:: .acc D ys::k) s) (z:ys.length<bW) (c:∀s',Inv G st (.acc D (ys++[y])::k) s'->Q .none s'):aO (model G.p G.w) A (call (.builtin "list.append") [.ref D,w]) Q E s:=by
 refine Inv.elim I λh tk mu I=> ?_
 have d:Dt h (Wd.out ⟨mu,D::bP k⟩) y w:=I.has (v:= .d y) (.head _)
 have r:sU h ⟨mu,D::bP k⟩ D ys:=I.uJ _ (.tail _ (.head _))
 refine r.elim λws r=>r.elim λm r=>wpAny_list_append_plain (s:=G.at h tk) ⟨m,r.1⟩ (λh' pl sb=>c _ (Inv.at (Iv.same (p:=[.v (.d y) w,.acc D ys]) (p':=[.acc D (ys++[y])]) (wr:=[D]) I (.same sb) (λa m=>m) (λa m=> .inl m) (λa m=>bA (OR (I.sub Ij) (OS (i:= .acc D (ys++[y]))▸m)) (bT sb.1.symm)) (bV.mpr ⟨bN,.nil⟩) cB .nil cB λK i m=> ?_))) (Qh (bH.symm.trans r.2.1.len|>λe=>(bH (xs:=ws)).trans e) r.2.2)
 rw [aC.mp m]
 exact aU pl λn' g=>⟨_,n',g,by rw [lW];exact (K.Sr r.2.1).app (jM.one (K.dt d)),Pm z⟩
theorem p4 {a b c d:It}:(a::b::c::d::k).Perm (d::b::c::a::k):=((((cY _ _ _).trans ((cY _ _ _).cons _)).trans (((cY _ _ _).cons _).cons _)).trans ((cY _ _ _).cons _)).trans (cY _ _ _)
theorem LF {z:Bool} {a:Addr} {os:List Addr} {rs:List Nat} {te elt iter:Expr} {ifs:List Expr} {x:Ex} {xs:List Ex} {scope:gF} {l ys:List aE} {R:wJ->aK->Prop} {V:List (Nm×V)->Prop} (B:Base G) (Rn:Rm A n) (F:MK env sc) (S:kT G X n) (T:Ih G X n) (hct:Zk sc t te=true) (hce:lM sc x elt=true) (hci:Fy sc xs ifs=true) (hz:z=true->Xx t=true)
  (hst:∀y∈pB t,aHz G env (.ns C) y) (hnd:(pB t).Nodup) (hv:∀b k',b.map (·.1)=pB t->It.ns C b∈k'->(∀i∈k,i∈k')->JD G env (b++ρ) k') (hb:b.map (·.1)=pB t) (he:kL X.E ρ x t xs l st=some (ys,st')) (hl:l.length<=bW) (I:Inv G st (.it z a os rs l:: .acc D []:: .ns C b::k) s)
  (c:∀b' s',Inv G st' (.fz rs:: .acc D ys:: .ns C b'::k) s'->R (.ok .next) s'):codeAny (model G.p G.w) A (.compLoop (.ListComp elt [⟨te,iter,ifs,0⟩] scope pos) 0 (.ref a) (.ref D) env) R s:=by
 have htt (q:z=true):∃l n p,te= .Tuple l n p:=by
  have q:=hz q
  cases t with
  | t ts=>exact iJ (P:=λte=>∃l n p,te= .Tuple l n p) (Kl hct) λF Y=>⟨_,_,_,rfl⟩
  | _=>exact lH q
 refine BV (λj s'=>∃l' y0 yr bi sti,j=l'.length/\Inv G sti (.it z a os rs l':: .acc D y0:: .ns C bi::k) s'/\bi.map (·.1)=pB t/\kL X.E ρ x t xs l' sti=some (yr,st')/\ys=y0++yr/\y0.length+l'.length<=bW) (λj s' q=> ?_) l.length ⟨l,[],ys,b,st,rfl,I,hb,he,rfl,by rw [lO,eH];exact hl⟩
 refine q.elim λl' q=>q.elim λy0 q=>q.elim λyr q=>q.elim λbi q=>q.elim λsti q=> ?_
 have I:=q.2.1
 have he:=q.2.2.2.1
 have ez:=q.2.2.2.2.2
 rw [q.1]
 cases l' with
 | nil=>exact QE Rn.handled I λs' I=>c bi s' (pureE (P:=λyr st'=>ys=y0++yr->Inv G st' (.fz rs:: .acc D ys:: .ns C bi::k) s') he (λe=>by rw [e,cN];exact I) q.2.2.2.2.1)
 | cons x1 l'=>
  have ez:y0.length+1+l'.length<=bW:=by rw [bL,dQ 1];exact ez
  refine mU he λb1 eb he=>cE he λkb s1 e1 he=>HY Rn.handled I (λq=>CF (hz q) eb) htt λv s I=> ?_
  have nb:=FJ t x1 b1 eb
  refine (TA (F:= .ns C) (k:= .v (.d x1) v:: .acc D y0:: .it z a os rs l'::k) Rn.handled t sc te bi x1 v hct hst (Hs.of (.head _))).go (a:=b1) (st':=sti) (by rw [CG t x1 b1 bi eb,JY b1 bi (q.2.2.1.trans nb.symm) (nb▸hnd)];rfl) (Inv.perm I p4) λY s I=> ?_
  replace I:=Inv.sub I Zj
  have Cc:Cx G n A sc env (b1++ρ) (.ns C b1:: .acc D y0:: .it z a os rs l'::k):=⟨B,Rn,F,hv b1 _ nb (.head _) λi m=> .tail _ (.tail _ (.tail _ m))⟩
  have back {y:List aE} {st:St} {s:aK} (I:Inv G st (.ns C b1:: .acc D y:: .it z a os rs l'::k) s):Inv G st (.it z a os rs l':: .acc D y:: .ns C b1::k) s:=Inv.perm I (((cY _ _ _).trans ((cY _ _ _).cons _)).trans (.swap _ _ _))
  refine (UX T Cc xs ifs hci).go e1 I λkv s J=>Tr.elim J λek I=> ?_
  rw [<-ek]
  cases kb with
  | false=>
   rw [if_neg cP]
   exact ⟨l'.length,cI _,l',y0,yr,b1,s1,rfl,back I,nb,he,q.2.2.2.2.1,aB (cW (bJ _) _) ez⟩
  | true=>
   rw [if_pos rfl]
   refine cE he λv1 s2 e2 he=>Eb he λy ey he=>cE he λyr' s3 e3 he=>S.go hce Cc e2 I λw s I=> ?_
   rw [ey] at I
   refine TI (Inv.perm (k':= .v (.d y) w:: .acc D y0:: .ns C b1:: .it z a os rs l'::k) I ((cY _ _ _).cons _)) (bA (cI _) (aB (aS _ _) ez)) λs I=>⟨l'.length,cI _,l',y0++[y],yr',b1,s2,rfl,back (Inv.perm I (.swap _ _ _)),nb,?_,?_,?_⟩
   ·exact pureE (P:=λyr st'=>kL X.E ρ x t xs l' s2=some (yr',st')) he e3
   ·rw [bU]
    exact q.2.2.2.2.1.trans (congrArg (y0++ ·) (pureE (P:=λyr Y=>yr=y::yr') he rfl))
   ·rw [aN];exact ez
end
section
variable {α β γ:Type} {G:Gr} {A:dT} {k k':List It} {st st':St} {s:aK} {h h':Heap} {mu:List Addr} {v u:V} {w w1 w2:aG} {E:aG->aK->Prop} {ρ b:List (Nm×V)} {env:Env} {sc sc':gF} {X:Dg} {n:Nat} {e:Expr} {pos:Pos} {σ:Wd} {t:Tg} {C D:Addr} {cl:List (Str×Addr)}
theorem UQ {x:Nm} (ls:List Nm):(ls.map λx=>(x,V.un)).lookup x=some v->nB v=false:=by
 induction ls with
 | nil=>exact λe=>cC e
 | cons y ls i=>
  intro e
  rw [dX,jK] at e
  by_cases q:x=y
  ·rw [if_pos q] at e;rw [<-aF e];rfl
  ·rw [if_neg q] at e;exact i e
theorem ZY {ys:List aE} (I:Iv G st (.acc D ys::k) h mu):Iv G st (.v (.d (.list ys)) (.ref D)::k) h mu:=by
 have od:(mu++(D::bP k)).Nodup:=I.nd
 refine Iv.same (p:=[.acc D ys]) (p':=[.v (.d (.list ys)) (.ref D)]) (wr:=[]) I (.refl h) cB cB cB .nil cB .nil cB λK i m=> ?_
 rw [aC.mp m]
 have r:sU h ⟨mu,D::bP k⟩ D ys:=I.uJ _ (.head _)
 exact r.elim λws r=>r.elim λn r=>⟨r.2.2,D,ws,rfl,⟨⟨λx=>(bB.mp od).2.2 _ x _ (.head _) rfl,(bV.mp (bB.mp od).2.1).1⟩,_,n,r.1,rfl,rfl,λe=>nomatch e⟩,K.Sr r.2.1⟩
theorem HE (I:Inv G st (.ns C b::k) s):(∃m,s.heap.Ns C m)/\∀h',gJ C s.heap h'->Inv G st k {s with heap:=h'}:=Inv.elim (P:=λs=>(∃m,s.heap.Ns C m)/\∀h',gJ C s.heap h'->Inv G st k {s with heap:=h'}) I λh tk mu I=>
 ⟨(I.uJ _ (.head _):MJ G h _ C _ b).imp λm p=>p.1,λh' sb=>Inv.at (Iv.same (p:=[.ns C b]) (p':=[]) (wr:=[C]) I (.same sb) (λa m=>m) cB cB .nil cB .nil cB λY=>cB)⟩
theorem Sw {it x:Ex} {xs:List Ex} {te elt iter:Expr} {ifs:List Expr} {p:List aE×Option Nat} {ys:List aE} {s2:St} {R:aG->Addr->wJ->aK->Prop} (S:kT G X n) (T:Ih G X n) (Cc:Cx G n A sc env ρ k) (hcl:TY env sc' cl) (hck:Yp sc sc' t=true) (hct:Zk sc' t te=true) (hz:((vM it).isNone||Xx t)=true)
  (hci:lM sc it iter=true) (hce:lM sc' x elt=true) (hcf:Fy sc' xs ifs=true) (e1:Np (X.E ρ) it st=some (p,s2)) (e2:kL X.E ρ x t xs p.1 s2=some (ys,st')) (I:Inv G st k s) (c:∀D C b s',Inv G st' (.v (.d (.list ys)) (.ref D):: .fz p.2.toList:: .ns C b::k) s'->R (.ref D) C (.ok .next) s'):
  aO (model G.p G.w) A (eval iter env) (λx s₁=>aO (model G.p G.w) A (pyIter x) (λit s₂=>aO (model G.p G.w) A (newList []) (λacc s₃=>aO (model G.p G.w) A (newFunctionEnv sc' env.globals cl [] env.qual none .none (some env)) (λcenv s₄=>
   codeAny (model G.p G.w) A (.compStart (.ListComp elt [⟨te,iter,ifs,0⟩] sc' pos) 0 it acc {cenv with scope:=relabel sc' env}) (R acc cenv.locals) s₄) E s₃) E s₂) E s₁) E s:=by
 have ck:=UE.of Cc.F hck
 refine QF S Cc hci e1 I λa os s zl I=>Inv.elim I λh tk mu I=> ?_
 refine tM (s:=G.at h tk) (items:=[]) (wpAny_newFunctionEnv (s:=G.at (h.push {cls:= .type "list",data:= .seq ([]:List aG).toArray}) tk) ck.mem (λY m=>nomatch m) (λh4 ns sb=> ?_) ck.kind) (fJ _)
 have kp:cU [] h h4:=⟨λb o Y g=>(sb.2 b (fX (by show b<(h.push _).objs.size;rw [cO];exact gZ (dG g)))).trans (bI _ (bI _ g)),by rw [sb.1];exact aB (aB (bJ _) (bT (cO ..).symm)) (aB (bJ _) (bT (cO ..).symm))⟩
 have zc:(h.push {cls:= .type "list",data:= .seq ([]:List aG).toArray}).objs.size=h.objs.size+1:=cO ..
 have z4:h4.objs.size=h.objs.size+2:=by rw [sb.1,cO];exact congrArg (· +1) zc
 have gD:h4.get? h.objs.size=some (listOf #[] 0):=(sb.2 _ (by show h.objs.size≠(h.push _).objs.size;rw [zc];exact (zR _).symm)).trans (bI _ (bC _ rfl))
 have ns:h4.Ns (h.push {cls:= .type "list",data:= .seq ([]:List aG).toArray}).objs.size _:=ns
 have J:Inv G s2 (.it (vM it).isSome a os p.2.toList p.1:: .acc h.objs.size []:: .ns (h.push {cls:= .type "list",data:= .seq ([]:List aG).toArray}).objs.size ((pB t).map λx=>(x,V.un))::k) (G.at h4 (tk+0)):=by
  refine Inv.perm (Inv.at (Iv.same (p:=[]) (p':=[.acc h.objs.size [],.ns (h.push {cls:= .type "list",data:= .seq ([]:List aG).toArray}).objs.size ((pB t).map λx=>(x,V.un))]) (wr:=[]) I kp cB (λa m=> .inr ?_) (λa m=> ?_) (bV.mpr ⟨λm=> ?_,bV.mpr ⟨bN,.nil⟩⟩) cB .nil cB λK i m=> ?_)) (((cY _ _ _).cons _).trans (.swap _ _ _))
  ·exact (aJ.mp m).elim (λe=>bT e.symm) λm=>by rw [aC.mp m,zc];exact bJ _
  ·exact (aJ.mp m).elim (λe=>by rw [e,z4];exact gM (by decide)) λm=>by rw [aC.mp m,zc,z4];exact cI _
  ·have q:=aC.mp m
   rw [zc] at q
   exact zR _ q.symm
  ·refine (aJ.mp m).elim (λe=>by rw [e];exact ⟨#[],0,gD,rfl,fJ _⟩) λm=> ?_
   rw [aC.mp m]
   exact ⟨_,ns,λx v e n Y=>by rw [UQ _ e] at n;exact lH n⟩
 have F':=RP (C:=(h.push {cls:= .type "list",data:= .seq ([]:List aG).toArray}).objs.size) (cl:=cl) Cc.F ck
 have loop (s:aK) (I:Inv G s2 (.it (vM it).isSome a os p.2.toList p.1:: .acc h.objs.size []:: .ns (h.push {cls:= .type "list",data:= .seq ([]:List aG).toArray}).objs.size ((pB t).map λx=>(x,V.un))::k) s):=
  LF (V:=λY=>True) (R:=R (.ref h.objs.size) (h.push {cls:= .type "list",data:= .seq ([]:List aG).toArray}).objs.size) (elt:=elt) (iter:=iter) (scope:=sc') (pos:=pos) (ρ:=ρ) Cc.B Cc.R F' S T hct hce hcf (λz=>by
   cases q:vM it with
   | none=>rw [q] at z;exact lH z
   | some _=>rw [q] at hz;exact hz) (λy m=>aCu ck.kind rfl (by rw [Ao,(ck.own y m).1];rfl)) ck.nd (λb k' hb m f=>RO Cc.F ck hcl (Cc.aHr.mono f) hb m) (by rw [dM];exact List.map_id _) e2 zl I λb' s' I=>c _ _ b' s' (Inv.perm (k':= .acc h.objs.size ys:: .fz p.2.toList:: .ns _ b'::k) I (.swap _ _ _)|>λI=>Inv.elim I λh tk mu I=>Inv.at (ZY I))
 refine codeAny_compStart_list (loop _ J) ?_
 refine aU J λh5 J5=>aU J5 λtk5 J5=>aU J5 λmu5 J5=> ?_
 have r:CX G h5 _ _ a os _ _:=J5.2.uJ _ (.head _)
 have eh:h4=h5:=congrArg Dj J5.1
 refine r.elim λS p=>p.elim λP p=>p.elim λi p=>p.elim λfp p=> ?_
 exact p.1.self A h4 (tk+0) i Cc.R.handled (eh▸p.2.1) _ _ (loop _ J)
end
section
variable {α β γ:Type} {G:Gr} {A:dT} {k k':List It} {st st':St} {s:aK} {h h':Heap} {mu:List Addr} {v u:V} {w w1 w2:aG} {E:aG->aK->Prop} {ρ b:List (Nm×V)} {env:Env} {sc sc':gF} {X X1:Dg} {n:Nat} {e:Expr} {pos:Pos} {σ:Wd} {t:Tg} {C D:Addr} {cl:List (Str×Addr)}
structure aHp (sc:gF) (x:Ex) (t:Tg) (it:Ex) (xs:List Ex) (elt:Expr) (te iter:Expr) (ifs:List Expr) (sc':gF):Prop where
 ck:Yp sc sc' t=true
 pl:isPlain iter=true
 ct:Zk sc' t te=true
 z:((vM it).isNone||Xx t)=true
 ci:lM sc it iter=true
 ce:lM sc' x elt=true
 cf:Fy sc' xs ifs=true
theorem aBk {P:Expr->Prop} {x it:Ex} {xs:List Ex} (hc:lM sc (.comp x t it xs) e=true) (c:∀elt te iter ifs sc' pos,aHp sc x t it xs elt te iter ifs sc'->P (.ListComp elt [⟨te,iter,ifs,0⟩] sc' pos)):P e:=iJ hc λF hc=>Co hc λg eg hc=>by
 show P (.ListComp F.x F.gs F.sc F.pos)
 have c7:=cQ hc
 have c6:=cQ c7.1
 have c5:=cQ c6.1
 have c4:=cQ c5.1
 have c3:=cQ c4.1
 have c2:=cQ c3.1
 have c1:=cQ c2.1
 have ea:g.is_async=0:=of_decide_eq_true c1.1
 rw [KH eg]
 cases g with
 | mk a b d i=>
  rw [show i=0 from ea]
  exact c F.x a b d F.sc F.pos ⟨c1.2,c2.2,c3.2,c4.2,c5.2,c6.2,c7.2⟩
theorem aQk {a b c d:It}:(a::b::c::d::k).Perm (d::a::b::c::k):=((((cY _ _ _).cons _).cons _).trans ((cY _ _ _).cons _)).trans (cY _ _ _)
theorem aBm (Cc:Cx G n A sc env ρ k) (ck:UE env sc' t) (I:Inv G st k s):∃cl,TY env sc' cl:=Inv.elim (P:=λY=>∃cl,TY env sc' cl) I λh tk mu I=>EW ck (Cc.aHr h _ I.uJ).2
theorem aCf (S:kT G X n) (T:Ih G X n) (Cc:Cx G n A sc env ρ k) {x it:Ex} {xs:List Ex} (hc:lM sc (.comp x t it xs) e=true):RR G A k (hY X ρ (.comp x t it xs)) (eval e env) (Vl k):=
 aBk (P:=λe=>RR G A k (hY X ρ (.comp x t it xs)) (eval e env) (Vl k)) hc λelt te iter ifs sc' pos q st v st' he s E I=>by
 have ck:=UE.of Cc.F q.ck
 refine cE he λp s1 e1 he=>cE he λys s2 e2 he=>cE he λY s3 e3 he=>(aBm Cc ck I).elim λcl hcl=> ?_
 rw [eval_ListComp]
 refine yS (use:=none) rfl (Bx q.pl) hcl.1 ck.kind ck.loc (Sw S T Cc hcl q.ck q.ct q.z q.ci q.ce q.cf e1 e2 I λD C b s' I=> ?_)
 have J:=HE (Inv.perm (k':= .ns C b:: .fz p.2.toList:: .v (.d (.list ys)) (.ref D)::k) I (((cY _ _ _).trans ((cY _ _ _).cons _)).trans (.swap _ _ _)))
 exact J.1.imp λm ns=>⟨ns,λh' sb=>pureE (P:=λv st'=>Inv G st' (Vl k v (.ref D)) _) he (Ot (J.2 h' sb) e3)⟩
theorem aDg (F:Fx G n A sc env) (S:kT G X n) (S1:kT G X1 n) (T:Ih G X n) (hE:X1.E=hY X) {tg:Expr} {x:Ex} (hct:MG sc t tg=true) (hce:lM sc x e=true) (hb:tT tg e=false) (h7:(view e).1=7):
  RR G A (.fr env ρ::k) (X1.E ρ x>>=λv=>On X1.E t v ρ>>=λρ'=>pure (Fl.next,ρ')) (exec (.Assign [tg] e pos) env) (Df env k):=by
 by_cases hs:swapsWithSole [tg] e pos.line env=pure false
 ·exact aAo F S1 hct hce hb hs
 ·intro st f st' he s E I
  have hx:(∃y tt it xs,x= .comp y tt it xs)\/x= .bad:=by
   have no {j:Nat} {f:FE->Bool} (h:tR j e f=true) (d:j≠7):False:=d ((pJ h).symm.trans h7)
   cases x with
   | comp y tt it xs=>exact .inl ⟨y,tt,it,xs,rfl⟩
   | bad=>exact .inr rfl
   | v x=>exact (no (j:=14) (show isNm sc 1 x.str e=true from hce) (by decide)).elim
   | Nq x=>exact (no (j:=14) (show isNm sc 2 x.str e=true from hce) (by decide)).elim
   | str m=>exact (no (cQ hce).1 (by decide)).elim
   | _=>exact (no hce (by decide)).elim
  refine cE he λv s1 e0 he=>cE he λρ' s9 e9 he=> ?_
  rw [hE] at e0
  refine hx.elim (λhx=> ?_) λhx=>by rw [hx] at e0;exact cC e0
  refine hx.elim λy hx=>hx.elim λtt hx=>hx.elim λit hx=>hx.elim λxs hx=> ?_
  rw [hx] at hce e0
  revert hs
  refine aBk (P:=λe=>¬swapsWithSole [tg] e pos.line env=pure false->aO _ A (exec (.Assign [tg] e pos) env) _ E s) hce λelt te iter ifs sc' p q hs=> ?_
  have hn:∃z zp,tg= .Name z zp:=by
   cases tg<;>first | exact ⟨_,_,rfl⟩ | exact absurd rfl hs
  refine hn.elim λz hn=>hn.elim λzp hn=> ?_
  rw [hn] at hs hct⊢
  have hw:swapsWith (.ListComp elt [⟨te,iter,ifs,0⟩] sc' p) (some (.Name z zp)) pos.line env=pure true:=by
   have:∃b:Bool,swapsWith (.ListComp elt [⟨te,iter,ifs,0⟩] sc' p) (some (.Name z zp)) pos.line env=pure b:=⟨_,rfl⟩
   refine this.elim λb hb=> ?_
   cases b with
   | false=>exact absurd hb hs
   | true=>exact hb
  have ck:=UE.of F.F q.ck
  refine cE e0 λpr s2 e1 e0=>cE e0 λys s3 e2 e0=>cE e0 λY s4 e3 e0=>(aBm (ρ:=ρ) F.cx ck I).elim λcl hcl=> ?_
  have ev:V.d (.list ys)=v/\s4=s1:=pureE (P:=λv s1=>V.d (.list ys)=v/\s4=s1) e0 ⟨rfl,rfl⟩
  rw [exec_Assign_Name_used _ _ _ _ hw]
  refine aA (eD (aA ?_))
  show aO _ A (do let _<-comprehension (.ListComp elt [⟨te,iter,ifs,0⟩] sc' p) sc' env _ (newList []) false (eval iter env) (some (assign (.Name z zp) env))) _ _ s
  refine aA (gN (yS (use:=some (assign (.Name z zp) env)) (Q:=λY s'=>Inv G st' (Df env k f .next) s') rfl (Bx q.pl) hcl.1 ck.kind ck.loc (Sw S T F.cx hcl q.ck q.ct q.z q.ci q.ce q.cf e1 e2 I λD C b s' I=> ?_)) (λY s' hq=>aH (aH hq)) λY Y e=>e)
  have I2:Inv G s3 (.fr env ρ:: .v (.d (.list ys)) (.ref D):: .fz pr.2.toList:: .ns C b::k) s':=Inv.perm I aQk
  have key:On X1.E t (.d (.list ys)) ρ s3=some (ρ',s3)/\s4=s9:=by
   cases t with
   | n y=>exact ⟨pureE (P:=λρ' Y=>(pure (mT y (.d (.list ys)) ρ):M _) s3=some (ρ',s3)) (ev.1▸e9) rfl,ev.2.trans (pureE (P:=λY s=>s1=s) e9 rfl)⟩
   | t ts=>exact nomatch (pJ (Kl hct):(14:Nat)=16)
   | a o y=>exact nomatch (pJ (BZ hct):(14:Nat)=12)
   | s o i=>exact nomatch (pJ (BY hct):(14:Nat)=13)
  refine (SZ (X:=X1) (k:= .v (.d (.list ys)) (.ref D):: .fz pr.2.toList:: .ns C b::k) F S1 hct (.head _)).go key.1 I2 λY s' I=> ?_
  have J:=HE (Inv.perm (k':= .ns C b:: .fz pr.2.toList:: .fr env ρ'::k) (Inv.sub I Zj) (((cY _ _ _).trans ((cY _ _ _).cons _)).trans (.swap _ _ _)))
  exact J.1.imp λm ns=>⟨ns,λh' sb=>Sj he (key.2▸Ot (J.2 h' sb) e3)⟩
end
section
variable {α β γ:Type} {G:Gr} {A:dT} {k k':List It} {st st':St} {s:aK} {h h':Heap} {mu:List Addr} {v u:V} {w w1 w2:aG} {E:aG->aK->Prop} {ρ b:List (Nm×V)} {env:Env} {sc sc':gF} {X X1:Dg} {n m:Nat} {e:Expr} {pos:Pos} {σ:Wd} {t:Tg}
noncomputable def aHq (G:Gr) (X:Dg) (n:Nat):Prop:=∀sc t tg x e,MG sc t tg=true->lM sc x e=true->tT tg e=false->(view e).1=7->∀A env ρ k pos,Fx G n A sc env->RR G A (.fr env ρ::k) (X.E ρ x>>=λv=>On X.E t v ρ>>=λρ'=>pure (Fl.next,ρ')) (exec (.Assign [tg] e pos) env) (Df env k)
theorem VF {c:Ex} {te:Expr} {body:List Sx} {bodyS:List Stmt} {N:Nat} (F:Fx G n A sc env) (T:Ih G X n) (SB:CV G X n) (hct:lM sc c te=true) (hcb:EY sc body bodyS=true):RR G A (.fr env ρ::k) (Wc X.E X.B c body N ρ) (exec (.While te bodyS [] pos) env) (Df env k):=λst f st' he s E I=>by
 refine wpAny_While (codeAny_whileLoop (λj s'=>∃sti ρi,Inv G sti (.fr env ρi::k) s'/\Wc X.E X.B c body j ρi sti=some (f,st')) (λj s' q=> ?_) N ⟨st,ρ,I,he⟩)
 refine q.elim λsti q=>q.elim λρi q=> ?_
 have he:=q.2
 cases j with
 | zero=>exact cC he
 | succ j=>
  refine cE he λv s1 e1 he=>cE he λt s2 e2 he=>T.go hct F.cx (aY e1 e2) q.1 λs I=> ?_
  cases t with
  | false=>exact aH (Sj he I)
  | true=>
   refine cE he λr s3 e3 he=>(SB sc body bodyS hcb A env ρi k F).go e3 I λg s I=> ?_
   revert he I
   cases r.1 with
   | next=>cases g with
    | next=>exact λhe I=>⟨j,cI _,s3,r.2,I,he⟩
    | _=>exact λY I=>yP (f:= .next) I rfl
   | ret u=>cases g with
    | ret w=>exact λhe I=>pureE (P:=λf st'=>Inv G st' (Df env k f (.ret w)) s) he I
    | _=>exact λY I=>yP (f:= .ret u) I rfl
theorem sE {P:Stmt->Prop} {stm:Stmt} {j:Nat} {f:FS->Bool} (h:KP (j+1) stm f=true) (c:∀F,f F=true->P ((NC F).getD j default)):P stm:=QG h c
theorem aDb (F:Fx G n A sc env) (S:kT G X n) (T:Ih G X n) (SB:CV G X n) (AC:aHq G X n) {x:Sx} {stm:Stmt} (hc:aQb sc x stm=true):RR G A (.fr env ρ::k) (zZ X x ρ) (exec stm env) (Df env k):=by
 let P:=λstm=>RR G A (.fr env ρ::k) (zZ X x ρ) (exec stm env) (Df env k)
 cases x with
 | ex e=>
  refine sE (j:=0) (f:=λF=>(view F.e).1==8&&lM sc e F.e) (P:=λstm=>RR G A (.fr env ρ::k) (zZ X (.ex e) ρ) (exec stm env) (Df env k)) hc λQ hc st f st' he s E I=> ?_
  have hc:=cQ hc
  show aO _ A (exec (.Expr Q.e Q.pos) env) _ E s
  refine iJ (n:=7) (f:=λY=>true) (P:=λe'=>lM sc e e'=true->aO _ A (exec (.Expr e' Q.pos) env) _ E s) (aM.mpr ⟨hc.1,rfl⟩) (λF' Y hce=> ?_) hc.2
  refine cE he λv s1 e1 he=>Eb he λy ey he=>fB he λg he=>wpAny_Expr (S.go hce F.cx e1 I λw s I=> ?_) (by unfold interactive;rw [F.F.kind];rfl) rfl
  have fin:=Sj he (Inv.sub I Ij)
  have d:∃h σ,Dt h (Wd.out σ) y w:=Inv.elim (P:=λY=>∃h σ,Dt h (Wd.out σ) y w) I λh tk mu I=>⟨h,_,Rep.d' (I.has (v:=v) (.head _)) ey⟩
  refine d.elim λh d=>d.elim λσ d=> ?_
  cases y with
  | none=>rw [show w= .none from d];exact fin
  | bool b=>rw [show w= .bool b from d];exact fin
  | int i=>exact aU d λt e=>by rw [e];exact fin
  | str y=>exact d.2.elim λt e=>by rw [e];exact fin
  | _=>exact lH g
 | asg t x=>
  refine sE (j:=1) (f:=λF=>Af (one F.l) λtg=> !tT tg F.e&&isPlain F.e&&MG sc t tg&&lM sc x F.e) (P:=λstm=>RR G A (.fr env ρ::k) (zZ X (.asg t x) ρ) (exec stm env) (Df env k)) hc λQ hc=>Co hc λtg eg hc=> ?_
  have c3:=cQ hc
  have c2:=cQ c3.1
  have c1:=cQ c2.1
  have hb:tT tg Q.e=false:=by
   have:=c1.1
   cases q:tT tg Q.e with
   | false=>rfl
   | true=>rw [q] at this;exact lH this
  show RR G A (.fr env ρ::k) _ (exec (.Assign Q.l Q.e Q.pos) env) (Df env k)
  rw [KH eg]
  by_cases h7:(view Q.e).1=7
  ·exact AC _ _ _ _ _ c2.2 c3.2 hb h7 _ _ _ _ _ F
  ·have hn:DX Q.e=true:=aM.mpr ⟨bne_iff_ne.mpr h7,(cQ c1.2).1⟩
   exact aAo F S c2.2 c3.2 hb (Qi hn)
 | qX ts xs=>
  refine sE (j:=1) (f:=λF=>Af (one F.l) λtg=>tR 16 tg λT=>tR 16 F.e λV=>Yq sc ts T.l&&Fy sc xs V.l&&ts.length==xs.length&& !(V.l.all (constantsAlone 8))&&decide ((ts.filterMap Wi).Nodup)&&decide (xs.length<=1000)) (P:=λstm=>RR G A (.fr env ρ::k) (zZ X (.qX ts xs) ρ) (exec stm env) (Df env k)) hc λQ hc=>Co hc λtg eg hc=> ?_
  show RR G A (.fr env ρ::k) _ (exec (.Assign Q.l Q.e Q.pos) env) (Df env k)
  rw [KH eg]
  refine iJ (P:=λtg=>RR G A (.fr env ρ::k) _ (exec (.Assign [tg] Q.e Q.pos) env) (Df env k)) hc λT' hc=>iJ (P:=λv=>RR G A (.fr env ρ::k) _ (exec (.Assign [_] v Q.pos) env) (Df env k)) hc λV' hc=> ?_
  have c5:=cQ hc
  have c4:=cQ c5.1
  have c3:=cQ c4.1
  have c2:=cQ c3.1
  have c1:=cQ c2.1
  exact aDf F S c1.1 c1.2 (beq_iff_eq.mp c2.2) (oI _ |>.mp c3.2) (of_decide_eq_true c4.2) (of_decide_eq_true c5.2)
 | gR c a b=>
  refine sE (j:=2) (f:=λF=>lM sc c F.t&&EY sc a F.a&&EY sc b F.b) (P:=λstm=>RR G A (.fr env ρ::k) (zZ X (.gR c a b) ρ) (exec stm env) (Df env k)) hc λQ hc st f st' he s E I=> ?_
  have hc:=cQ hc
  have h1:=cQ hc.1
  refine cE he λv s1 e1 he=>cE he λt s2 e2 he=>wpAny_If (T.go h1.1 F.cx (aY e1 e2) I λs I=> ?_)
  cases t with
  | true=>exact (SB sc a Q.a h1.2 A env ρ k F).go he I λY Y I=>I
  | false=>exact (SB sc b Q.b hc.2 A env ρ k F).go he I λY Y I=>I
 | «for» t it body=>
  refine sE (j:=3) (f:=λF=>F.b.isEmpty&&((vM it).isNone||Xx t)&&isPlain F.e&&Zk sc t F.t&&lM sc it F.e&&EY sc body F.a) (P:=λstm=>RR G A (.fr env ρ::k) (zZ X (.for t it body) ρ) (exec stm env) (Df env k)) hc λQ hc=> ?_
  have c5:=cQ hc
  have c4:=cQ c5.1
  have c3:=cQ c4.1
  have c2:=cQ c3.1
  have c1:=cQ c2.1
  show RR G A (.fr env ρ::k) _ (exec (.For Q.t Q.e Q.a Q.b Q.pos) env) (Df env k)
  rw [cJ.mp c1.1]
  exact aJl F S SB c3.2 c4.2 c2.2 c5.2 c1.2
 | aAg c body=>
  refine sE (j:=4) (f:=λF=>F.b.isEmpty&&lM sc c F.t&&EY sc body F.a) (P:=λstm=>RR G A (.fr env ρ::k) (zZ X (.aAg c body) ρ) (exec stm env) (Df env k)) hc λQ hc=> ?_
  have hc:=cQ hc
  have h1:=cQ hc.1
  show RR G A (.fr env ρ::k) _ (exec (.While Q.t Q.a Q.b Q.pos) env) (Df env k)
  rw [cJ.mp h1.1]
  exact VF F T SB h1.2 hc.2
 | ret o=>
  cases o with
  | none=>
   refine sE (j:=5) (f:=λF=>F.o.isNone) (P:=λstm=>RR G A (.fr env ρ::k) (zZ X (.ret none) ρ) (exec stm env) (Df env k)) hc λQ hc st f st' he s E I=> ?_
   show aO _ A (exec (.Return Q.o Q.pos) env) _ E s
   rw [lJ.mp hc]
   exact wpAny_Return_none (pureE (P:=λf st'=>Inv G st' (Df env k f (.ret .none)) s) he (Inv.elim I λh tk mu I=>Inv.at (I.val (v:= .d .none) (w:= .none) (.refl h) rfl)))
  | some x=>
   refine sE (j:=5) (f:=λF=>Af F.o λe=>lM sc x e) (P:=λstm=>RR G A (.fr env ρ::k) (zZ X (.ret (some x)) ρ) (exec stm env) (Df env k)) hc λQ hc st f st' he s E I=> ?_
   show aO _ A (exec (.Return Q.o Q.pos) env) _ E s
   exact Co hc λe ee hc=>by rw [ee];exact cE he λv s1 e1 he=>wpAny_Return_some (S.go hc F.cx e1 I λw s I=>pureE (P:=λf st'=>Inv G st' (Df env k f (.ret w)) s) he I)
 | bad=>exact λY Y Y he=>cC he
theorem JV (S:kT G X n) (T:Ih G X n) (SB:CV G X n) (AC:aHq G X n) (hX:X1.B=Jo X):CV G X1 n:=by
 intro sc xs
 induction xs with
 | nil=>
  intro l hc A env ρ k F st f st' he s E I
  rw [hX] at he
  rw [cJ.mp hc]
  exact aH (Sj he I)
 | cons x xs i=>
  intro l hc A env ρ k F st f st' he s E I
  cases l with
  | nil=>exact lH hc
  | cons stm l=>
   have hc:=cQ hc
   rw [hX] at he
   rw [arm_execs_cons]
   refine cE he λr s1 e1 he=>aA ((aDb F S T SB AC hc.1).go e1 I λg s I=> ?_)
   revert he I
   unfold Df
   cases r.1 with
   | next=>cases g with
    | next=>exact λhe I=>(i l hc.2 A env r.2 k F).go (by rw [hX];exact he) I λY Y I=>I
    | _=>exact λY I=>yP (f:= .next) I rfl
   | ret u=>cases g with
    | ret w=>exact λhe I=>aH (pureE (P:=λf st'=>Inv G st' (Df env k f (.ret w)) s) he I)
    | _=>exact λY I=>yP (f:= .ret u) I rfl
structure aMt (G:Gr):Prop where
 B:Base G
 Fs:aIb G
 M:Mk G
 H:Zg G
 Lz:∀ {X n},Zc G X n->∀ {A sc env ρ k e},Cx G (n+2) A sc env ρ k->lM sc .Lz e=true->RR G A k (hY X ρ .Lz) (eval e env) (Vl k)
structure Lv (G:Gr) (X:Dg) (n:Nat):Prop where
 E:kT G X n
 T:Ih G X n
 B:CV G X n
 C:Zc G X n
 ac:aHq G X n
 fn:aAd X
theorem Cx.less (C:Cx G m A sc env ρ k) (h:n<=m):Cx G n A sc env ρ k:=⟨C.B,C.R.less h,C.F,C.aHr⟩
theorem Fx.less (C:Fx G m A sc env) (h:n<=m):Fx G n A sc env:=⟨C.B,C.R.less h,C.F⟩
theorem Lv.up (L:Lv G X n) (h:n<=m):Lv G X m:=⟨λsc x e hc A env ρ k C=>L.E sc x e hc A env ρ k (C.less h),λsc x e hc A env ρ k C=>L.T sc x e hc A env ρ k (C.less h),λsc x e hc A env ρ k C=>L.B sc x e hc A env ρ k (C.less h),λc f vs st v st' he Y Y Y Y Y Y Y F A k ws s R hR=>L.C c f vs st v st' he F A k ws s R (hR.less h),λsc t tg x e a b c d A env ρ k pos F=>L.ac sc t tg x e a b c d A env ρ k pos (F.less h),L.fn⟩
theorem EJ {b:Bt} {es:List Ex} {T:String} {j:Nat} (B:Base G) (S:kT G X n) (C:Cx G n A sc env ρ k) (hT:(j=0/\T="tuple")\/(j=1/\T="bool")\/(j=2/\T="int")) (hb:G.mg (aZ T)=none/\G.mb (aZ T)=some (.type T)) (hc:tR 8 e (λF=>F.kw.isEmpty&&(xH sc "isinstance" F.x&&Af (two F.l) λp=>xH sc T p.2&&Fy sc es [p.1]))=true) (h1:∀v,aGo b v=(ofD (Rv j) v>>=nT)) (h2:∀v w,aGn b v w=fail):
  RR G A k (hY X ρ (.blt b es)) (eval e env) (Vl k):=λst v st' he s E I=>by
 refine MQ (b:=b) S C hT hb hc st v st' ?_ s E I
 refine cE he λvs s1 e1 he=>aY e1 ?_
 cases vs with
 | nil=>exact cC he
 | cons u r=>cases r with
  | nil=>rw [show builtin b [u]=_ from h1 u] at he;exact he
  | cons w r=>cases r with
   | nil=>rw [show builtin b [u,w]=_ from h2 u w] at he;exact cC he
   | cons _ _=>exact cC he
theorem JT (Gd:aMt G) (L:Lv G X n) (hX:X1.E=hY X):kT G X1 (n+2):=λsc x e hc A env ρ k C=>by
 have U:=L.up (aS n 2)
 rw [hX]
 cases x with
 | v x=>exact aQc C hc
 | Nq x=>exact aIq C hc
 | none=>exact aBz hc
 | bool b=>exact aCg hc
 | int i=>exact aIo hc
 | str m=>exact aIg hc
 | tup es=>exact aIe U.E C hc
 | lst es=>exact aIm U.E C hc
 | zE es=>exact aCa U.E C hc
 | Xg=>exact aCd C hc
 | Wq ks vs=>exact aBy U.E C hc
 | bin o a b=>exact aIs U.E C hc
 | neg a=>exact aIj U.E C hc
 | not a=>exact aIi U.E C hc
 | and es=>exact aIu U.E C hc
 | or es=>exact aNk U.E C hc
 | cmp a r=>exact aIr U.E C hc
 | gR c a b=>exact aIp U.E U.T C hc
 | sub a i=>exact aIf U.E C hc
 | Wo a lo hi=>exact aIh U.E C hc
 | xN a x=>exact aIt U.E C hc
 | call f es=>exact x_call Gd.Fs U.E U.C U.fn C hc
 | blt b es=>
  cases b with
  | oM=>exact JG Gd.H U.E C hc
  | sG=>exact EJ Gd.B U.E C (j:=0) (T:="tuple") (.inl ⟨rfl,rfl⟩) ⟨Gd.B.Ta _ (by decide),Gd.B.FI _ (by decide)⟩ hc (λv=>rfl) λY Y=>rfl
  | is_bool=>exact EJ Gd.B U.E C (j:=1) (T:="bool") (.inr (.inl ⟨rfl,rfl⟩)) ⟨Gd.B.Ta _ (by decide),Gd.B.FI _ (by decide)⟩ hc (λv=>rfl) λY Y=>rfl
  | Eu=>exact EJ Gd.B U.E C (j:=2) (T:="int") (.inr (.inr ⟨rfl,rfl⟩)) ⟨Gd.B.Ta _ (by decide),Gd.B.FI _ (by decide)⟩ hc (λv=>rfl) λY Y=>rfl
  | _=>exact Zn U.E C hc rfl
 | met o m es=>exact aIl Gd.Fs U.E U.C U.fn C hc
 | comp x t it xs=>exact aCf U.E U.T C hc
 | BK a=>exact aCe U.E C hc
 | zip a b=>exact λY Y Y he=>cC he
 | Lz=>exact Gd.Lz L.C C hc
 | AR=>exact aCb Gd.Fs Gd.M L.C (C.less (bJ _)) hc
 | aAv=>exact aIk C hc
 | bad=>exact λY Y Y he=>cC he
theorem EP (hX:X1.C=Jn X):aAd X1:=λc f vs st r he=>by
 rw [hX] at he
 exact mU (o:=fnOf c f) (b:=r.1) (st':=r.2) he λp ep Y=>by rw [ep];rfl
theorem WW (Gd:aMt G) (L:Lv G X n) (hE:X1.E=hY X) (hC:X1.C=Jn X) (hB:X1.B=Jo X):Lv G X1 (n+2):=by
 have U:=L.up (aS n 2)
 have E1:=JT Gd L hE
 exact ⟨E1,aCo U.E U.T hE E1,JV U.E U.T U.B U.ac hB,λc f vs st v st' he Y Y Y Y Y Y Y F A k ws s R hR=>JU Gd.B L.B hC c f vs st v st' he F A k ws s R (hR.less (bJ _)),λsc t tg x e a b c d A env ρ k pos F=>aDg F U.E E1 U.T hE a b c d,EP hC⟩
theorem PN (Gd:aMt G):∀j,Lv G (ev j) (2*j)
 | 0=>⟨λY Y Y Y Y Y Y Y Y Y Y Y he=>cC he,λY Y Y Y Y Y Y Y Y Y Y Y he=>cC he,λY Y Y Y Y Y Y Y Y Y Y Y he=>cC he,λY Y Y Y Y Y he=>cC he,λY Y Y Y Y Y Y Y Y Y Y Y Y Y Y Y Y Y he=>cC he,λY Y Y Y Y he=>cC he⟩
 | j+1=>WW Gd (PN Gd j) rfl rfl rfl
end
section
variable {G:Gr} {K:Frag} {cl:Cl->Addr} {a:Addr}
abbrev Row:=Option Cl×Nm×List Nm×List Nm×List Sx
noncomputable def aPz (d:Data):Option wL:=match d with
 | .func fd=>some fd
 | _=>none
theorem RB {d:Data} {fd:wL} (e:aPz d=some fd):d= .func fd:=by
 cases d with
 | func f=>exact congrArg Data.func (aF e)
 | _=>exact cC e
noncomputable def EM (K:Frag) (a:Addr):Option (Obj×wL):=(K.lookup a).bind λo=>(aPz o.data).map λfd=>(o,fd)
theorem Vs {p:Obj×wL} (e:EM K a=some p):K.lookup a=some p.1/\p.1.data= .func p.2:=(bR.mp e).elim λo h=>(bO.mp h.2).elim λfd q=>by
 rw [<-q.2]
 exact ⟨h.1,RB q.1⟩
noncomputable def aBn (b:FuncBody):Option (List Stmt):=match b with
 | .stmts b=>some b
 | .expr _=>none
theorem FH {b:FuncBody} {l:List Stmt} (e:aBn b=some l):b= .stmts l:=by
 cases b with
 | stmts b=>exact congrArg FuncBody.stmts (aF e)
 | expr _=>exact cC e
noncomputable def bodyOf (fd:wL):Option (List Stmt):=aBn fd.body
theorem CD {fd:wL} {b:List Stmt} (e:bodyOf fd=some b):fd.body= .stmts b:=FH e
noncomputable def aGf (K:Frag) (cl:Cl->Addr) (c:Option Cl) (f:Nm) (a:Addr):Bool:=match c with
 | none=>nsIn K mainGlobals (Nm.str f)==some (some (.ref a))
 | some c=>findIn K (.ref (cl c)) (Nm.str f)==some (some (.ref a))&&isFn K (.ref a)
noncomputable def IT (K:Frag) (cl:Cl->Addr) (r:Row) (a:Addr):Bool:=aGf K cl r.1 r.2.1 a&&Af (EM K a) λp=>Af (bodyOf p.2) λb=>
 aGg r.2.2.1 r.2.2.2.1 r.2.2.2.2 p.2.scope b&&decide (p.2.globals=mainGlobals)&&decide (p.2.builtins=builtinsNs)&&p.2.closure.isEmpty&&codeIn K p.2.code p.2.qualname
noncomputable def Binds (K:Frag) (a:Addr) (ps:List Nm):Prop:=∀p,EM K a=some p->∀ws:List aG,ws.length=ps.length->bindArgs p.2 ⟨ws,[]⟩=pure ((ps.map Nm.str).zip ws)
theorem Uc {α:Type} {l:List α} {n:Nat} {P:List α->Prop} (h:l.length=n+1) (c:∀x r,r.length=n->P (x::r)):P l:=by
 cases l with
 | nil=>exact nomatch h
 | cons x r=>exact c x r (rS h)
theorem len0 {α:Type} {l:List α} {P:List α->Prop} (h:l.length=0) (c:P []):P l:=List.length_eq_zero_iff.mp h▸c
theorem aHy {p:Nm} (h:∀x:aG,(EM K a).map (λfd=>bindArgs fd.2 ⟨[x],[]⟩)=some (pure [(p.str,x)])):Binds K a [p]:=λfd e ws hl=>
 Uc (P:=λws=>bindArgs fd.2 ⟨ws,[]⟩=pure ([p.str].zip ws)) hl λx r h0=>len0 (P:=λr=>bindArgs fd.2 ⟨x::r,[]⟩=pure ([p.str].zip (x::r))) h0 (by have:=h x;rw [e] at this;exact aF this)
theorem aHx {p q:Nm} (h:∀x y:aG,(EM K a).map (λfd=>bindArgs fd.2 ⟨[x,y],[]⟩)=some (pure [(p.str,x),(q.str,y)])):Binds K a [p,q]:=λfd e ws hl=>
 Uc (P:=λws=>bindArgs fd.2 ⟨ws,[]⟩=pure ([p.str,q.str].zip ws)) hl λx r h1=>Uc (P:=λr=>bindArgs fd.2 ⟨x::r,[]⟩=pure ([p.str,q.str].zip (x::r))) h1 λy r h0=>len0 (P:=λr=>bindArgs fd.2 ⟨x::y::r,[]⟩=pure ([p.str,q.str].zip (x::y::r))) h0 (by have:=h x y;rw [e] at this;exact aF this)
theorem aBo {p q r:Nm} (h:∀x y z:aG,(EM K a).map (λfd=>bindArgs fd.2 ⟨[x,y,z],[]⟩)=some (pure [(p.str,x),(q.str,y),(r.str,z)])):Binds K a [p,q,r]:=λfd e ws hl=>
 Uc (P:=λws=>bindArgs fd.2 ⟨ws,[]⟩=pure ([p.str,q.str,r.str].zip ws)) hl λx l h2=>Uc (P:=λl=>bindArgs fd.2 ⟨x::l,[]⟩=pure ([p.str,q.str,r.str].zip (x::l))) h2 λy l h1=>Uc (P:=λl=>bindArgs fd.2 ⟨x::y::l,[]⟩=pure ([p.str,q.str,r.str].zip (x::y::l))) h1 λz l h0=>len0 (P:=λl=>bindArgs fd.2 ⟨x::y::z::l,[]⟩=pure ([p.str,q.str,r.str].zip (x::y::z::l))) h0 (by have:=h x y z;rw [e] at this;exact aF this)
theorem aGq {p q r s:Nm} (h:∀x y z u:aG,(EM K a).map (λfd=>bindArgs fd.2 ⟨[x,y,z,u],[]⟩)=some (pure [(p.str,x),(q.str,y),(r.str,z),(s.str,u)])):Binds K a [p,q,r,s]:=λfd e ws hl=>
 Uc (P:=λws=>bindArgs fd.2 ⟨ws,[]⟩=pure ([p.str,q.str,r.str,s.str].zip ws)) hl λx l h3=>Uc (P:=λl=>bindArgs fd.2 ⟨x::l,[]⟩=pure ([p.str,q.str,r.str,s.str].zip (x::l))) h3 λy l h2=>Uc (P:=λl=>bindArgs fd.2 ⟨x::y::l,[]⟩=pure ([p.str,q.str,r.str,s.str].zip (x::y::l))) h2 λz l h1=>Uc (P:=λl=>bindArgs fd.2 ⟨x::y::z::l,[]⟩=pure ([p.str,q.str,r.str,s.str].zip (x::y::z::l))) h1 λu l h0=>len0 (P:=λl=>bindArgs fd.2 ⟨x::y::z::u::l,[]⟩=pure ([p.str,q.str,r.str,s.str].zip (x::y::z::u::l))) h0 (by have:=h x y z u;rw [e] at this;exact aF this)
noncomputable def Fd (K:Frag) (cl:Cl->Addr):List Row->List Addr->Prop
 | []=>λY=>True
 | r::rs=>λl=>match l with
  | []=>False
  | a::l=>(IT K cl r a=true/\Binds K a r.2.2.1)/\Fd K cl rs l
theorem AG {r:Row} (rs:List Row):∀l,Fd K cl rs l->r∈rs->∃a,IT K cl r a=true/\Binds K a r.2.2.1:=by
 induction rs with
 | nil=>exact λY Y m=>nomatch m
 | cons q rs i=>
  intro l h m
  cases l with
  | nil=>exact h.elim
  | cons a l=>exact (aJ.mp m).elim (λe=>⟨a,e▸h.1⟩) (i l h.2)
theorem BM {c:Option Cl} {f:Nm} {q:List Nm×List Nm×List Sx} (e:fnOf c f=some q):(c,f,q)∈Sk:=by
 refine (bO.mp e).elim λr h=> ?_
 have m:=pT h.1
 have g:(decide (r.1=c)&&decide (r.2.1=f))=true:=Ci (p:=λp:Row=>decide (p.1=c)&&decide (p.2.1=f)) h.1
 have g:=cQ g
 rw [<-h.2,<-(of_decide_eq_true g.1:r.1=c),<-(of_decide_eq_true g.2:r.2.1=f)]
 exact m
theorem OA {r:Row} (KX:G.K.In G.h) (h:IT G.K G.cl r a=true) (hb:Binds G.K a r.2.2.1) (e:fnOf r.1 r.2.1=some r.2.2):∃o fd b,TW G r.1 r.2.1 a o fd b r.2.2.1 r.2.2.2.1 r.2.2.2.2:=
 Co (cQ h).2 λp ep h=>Co h λb eb h=>
  have c4:=cQ h
  have c3:=cQ c4.1
  have c2:=cQ c3.1
  have c1:=cQ c2.1
  ⟨p.1,p.2,b,e,KX _ _ (Vs ep).1,(Vs ep).2,CD eb,of_decide_eq_true c1.2,of_decide_eq_true c2.2,cJ.mp c3.2,codeRec_of KX c4.2,hb p ep,c1.1⟩
theorem aFl {l:List Addr} (KX:G.K.In G.h) (g:G.h.Ns mainGlobals G.mg) (h:Fd G.K G.cl Sk l):aIb G where
 fn:=λf hf=>(hU.mp hf).elim λq e=>(AG Sk l h (BM e)).elim λa p=>(OA KX p.1 p.2 e).elim λo r=>r.elim λfd r=>r.elim λb r=>⟨a,o,fd,b,_,_,_,mg_of KX g (beq_iff_eq.mp (cQ p.1).1),r⟩
 met:=λc f hf=>(hU.mp hf).elim λq e=>(AG Sk l h (BM e)).elim λa p=>(OA KX p.1 p.2 e).elim λo r=>r.elim λfd r=>r.elim λb r=>⟨a,o,fd,b,_,_,_,beq_iff_eq.mp (cQ (cQ p.1).1).1,(cQ (cQ p.1).1).2,r⟩
end
noncomputable def Nl (P:List Nat) (led:Bool):SetTable:={mask:=7,place:=P.toArray,dummies:= #[],finger:=0,led:=led,moves:=0,plain:=true}
noncomputable def HC (P:List Nat) (j:Nat):List Nat:=((Nl P true).put j).1.place.toList
noncomputable def Nf (b:Nat):List Nat->Bool
 | []=>true
 | a::r=>Iy b a&&(Iy a 7&&Nf (a+1) r)
noncomputable def GN:Nat->Nat->List (List Nat)
 | 0,_=>[[]]
 | n+1,a=>GN n (a+1)++(GN n (a+1)).map (a:: ·)
noncomputable def tabs:List (List Nat):=GN 8 0
noncomputable def atS (P:List Nat) (j:Nat):Bool:=match (Nl P true).slot j with
 | .empty=> !P.contains j
 | .live _=>P.contains j
 | .dummy=>false
noncomputable def fs (P:List Nat):Nat->Nat->Nat->Option Nat
 | 0,_,_=>none
 | n+1,i,q=>bif P.contains i then fs P n ((i*5+1+q)%8) (q / 32) else some i
noncomputable def XX (P:List Nat) (i q:Nat):Bool:=match fs P 220 i q with
 | some j=>Iy j 7&& !P.contains j
 | none=>false
noncomputable def slotAt (P:List Nat) (i:Nat):Nat:=match i with
 | 0=>0
 | i+1=>P.getD i 0+1
noncomputable def TC (n:Nat) (p:List Nat->Bool):Bool:=tabs.all λP=> !Iy P.length n||p P
noncomputable def TD (n:Nat) (p:Nat->Bool):Bool:=(gH n).all p
theorem aCp:TC 3 (λP=>TD 8 (atS P))=true:=by decide+kernel
theorem aJa:TC 3 (λP=>TD 8 λj=>P.contains j||(Nf 0 (HC P j)&&Bd (HC P j).length (P.length+1)))=true:=by decide+kernel
theorem aCq:TC 3 (λP=>TD 8 λi=>XX P i 0&&XX P i 1)=true:=by decide+kernel
theorem aCn:TC 4 (λP=>TD (P.length+1) λi=>Bd (wI P.toArray (slotAt P i)) i)=true:=by decide+kernel
theorem Kc:∀ (n b:Nat) (P:List Nat),b+n=8->Nf b P=true->P∈GN n b
 | 0,b,[]=>λY Y=> .head _
 | 0,b,a::r=>λhb h=>by
  have h:=aM.1 h
  have l:=aB (aP h.1) (aP (aM.1 h.2).1)
  rw [show b=8 from hb] at l
  exact absurd l (by decide)
 | n+1,b,[]=>λhb Y=>aL _ (Kc n (b+1) [] (by rw [<-hb,bL,dQ 1]) rfl)
 | n+1,b,a::r=>λhb h=>by
  have hb':b+1+n=8:=by rw [<-hb,bL,dQ 1]
  have h:=aM.1 h
  rcases jF (aP h.1) with l | e
  ·exact aL _ (Kc n (b+1) (a::r) hb' (aM.2 ⟨Dc l,h.2⟩))
  ·rw [<-e] at h⊢
   exact aQ _ (aT.2 ⟨r,Kc n (b+1) r hb' (aM.1 h.2).2,rfl⟩)
theorem Pn {n:Nat} {p:List Nat->Bool} (h:TC n p=true) {P:List Nat} (r:Nf 0 P=true) (l:P.length<=n):p P=true:=by
 have q:=dH.1 h P (Kc 8 0 P rfl r)
 rw [Dc l] at q
 exact q
theorem Po {n:Nat} {p:Nat->Bool} (h:TD n p=true) {i:Nat} (l:i<n):p i=true:=dH.1 h i (oV.2 l)
theorem aBf {P:List Nat} {led:Bool} {h:Int} (r:Nf 0 P=true) (l:P.length<=3):∀ (n:Nat) (i q:Nat),i<8->Io (Nl P led) (λY=>h+1) h n {j:=i,more:=0,i:=i,perturb:=q,dummy:=none}=(fs P n i (q / 32)).map λj=>SetTable.Met.empty j none
 | 0,_,_,_=>rfl
 | n+1,i,q,hi=>by
  have s:=Po (Pn aCp r l) hi
  have nx:=aBf (led:=led) (h:=h) r l n ((i*5+1+q / 32)%8) (q / 32) (wO _ (by decide))
  have hr:∀i,i<8->uN 7 i - i=0:=by decide
  have ha:(Nl P led).advance {j:=i,more:=0,i:=i,perturb:=q,dummy:=none}={j:=(i*5+1+q / 32)%8,more:=0,i:=(i*5+1+q / 32)%8,perturb:=q / 32,dummy:=none}:=by
   show SetTable.Probe.mk _ (uN 7 ((i*5+1+q / 32)%8) - (i*5+1+q / 32)%8) _ _ _=_
   rw [hr _ (wO _ (by decide))]
   rfl
  unfold atS at s
  show (match (Nl P true).slot i with | .empty=>_ | .dummy=>_ | .live i=>_)=(bif P.contains i then fs P n ((i*5+1+q / 32)%8) (q / 32 / 32) else some i).map _
  revert s
  cases (Nl P true).slot i with
  | empty=>
   intro s
   have s:(!P.contains i)=true:=s
   rw [show P.contains i=false from oJ.2 λc=>by rw [c] at s;exact nomatch s];rfl
  | live k=>
   intro s
   have s:P.contains i=true:=s
   rw [s]
   show (if (h+1==h)=true then _ else _)=_
   rw [if_neg λe=>nI (mZ h) (eq_of_beq e).symm,ha,nx];rfl
  | dummy=>exact λs=>nomatch s
theorem XY {P:List Nat} {led:Bool} {h:Int} (r:Nf 0 P=true) (l:P.length<=3) (hh:0<=h/\h<64):∃j,yC (Nl P led) h=some (j,false)/\Nf 0 (HC P j)=true/\(HC P j).length=P.length+1:=by
 obtain ⟨k,rfl⟩:=mR hh.1
 have hk:k<64:=fL.1 hh.2
 have b:SetTable.bits (k:Int)=k:=by
  show ((k:Int)%(2^64:Int)).toNat=k
  rw [Int.emod_eq_of_lt hh.1 (Bh hh.2 (by decide)),fS]
 have hr:∀i,i<8->uN 7 i - i=0:=by decide
 have m8:k%8<8:=wO _ (by decide)
 have g:=aBf (led:=led) (h:=(k:Int)) r l 220 (k%8) k m8
 have f:=aM.1 (Po (Pn aCq r l) m8)
 have q2:k / 32=0\/k / 32=1:=(jF (jZ (Nat.div_lt_of_lt_mul (show k<32*2 from hk)))).imp Nat.lt_one_iff.1 id
 have f:XX P (k%8) (k / 32)=true:=q2.elim (λe=>by rw [e];exact f.1) λe=>by rw [e];exact f.2
 unfold XX at f
 revert f g
 cases fs P 220 (k%8) (k / 32) with
 | none=>exact λY f=>nomatch f
 | some j=>
  intro g f
  have f:=aM.1 f
  have p:=(gY.1 (Po (Pn aJa r l) (oE (aP f.1)))).resolve_left λc=>by
   have f2:=f.2
   rw [c] at f2
   exact nomatch f2
  refine ⟨j,?_,(aM.1 p).1,sP (aM.1 p).2⟩
  unfold yC SetTable.probe SetTable.probeStart
  rw [b]
  show (match Io (Nl P led) (λY=>(k:Int)+1) k 220 ⟨k%8,uN 7 (k%8) - k%8,k%8,k,none⟩ with | some (.empty j dummy)=>_ | _=>_)=_
  rw [hr _ m8,g];rfl
noncomputable def Yv (G:Gr):Bool:=G.w.params.followText "set-order"
noncomputable def NW (e:Int×aG):Int:=match e.2 with
 | .int n _=>n
 | _=>0
structure Fc (G:Gr) (h:Heap) (a:Addr) (o:Obj) (es:Array (Int×aG)) (ep:Nat) (P:List Nat) (js:List Int):Prop where
 get:h.get? a=some o
 ex:o.ExactSet
 data:o.data= .set es ep (Nl P (!Yv G))
 rise:Nf 0 P=true
 len:P.length=es.size
 four:es.size<=4
 ent:∀e,e∈es.toList->∃n t,e=(hashInt n,jE n t)
 keys:es.toList.map NW=js
noncomputable def Ha (G:Gr) (h:Heap) (a:Addr) (js:List Int):Prop:=∃o es ep P,Fc G h a o es ep P js
section
variable {G:Gr} {A:dT} {E:aG->aK->Prop} {h h':Heap} {a:Addr} {o:Obj} {es:Array (Int×aG)} {ep k0:Nat} {P:List Nat} {js:List Int} {k:Int} {t:Tok} {tk:Nat}
theorem aFj:∀n:Nat,n<64->hashInt (n:Int)=n:=by decide
theorem XR (hk:0<=k/\k<64):hashInt k=k:=by
 obtain ⟨n,rfl⟩:=mR hk.1
 exact aFj n (fL.1 hk.2)
theorem Ep {led:Bool} {n:Nat} (l:P.length=n) (f:n<=4):(Nl P led).fits n=true:=aM.2 ⟨beq_iff_eq.2 l,decide_eq_true (show P.length+0<=7 by rw [l];exact aB f (by decide))⟩
theorem Fc.elems (D:Fc G h a o es ep P js):ElemsOf (intKind G.p G.w) es.toList:=λe m=>by
 obtain ⟨n,t,rfl⟩:=D.ent e m
 exact ⟨⟨n,qO ..,rfl⟩,rfl⟩
theorem aEy {led:Bool} (l:P.length=es.size) (f:es.size<=3) {j:Nat} (hj:yC (Nl P led) k=some (j,false)) (on:(HC P j).length=P.length+1) {x:aG}:∃es1,layNew (Nl P led) es k x=(es1,Nl (HC P j) led,false,false)/\es1.size=es.size+1/\es1.toList.Perm (es.toList++[(k,x)]):=by
 have p:=layNew_perm (Nl P led) es k x
 rw [lW] at p
 unfold layNew at p⊢
 rw [hj] at p⊢
 have p:(oA es ((Nl P led).put j).2 (k,x)).toList.Perm (es.toList++[(k,x)]):=p
 have z:(oA es ((Nl P led).put j).2 (k,x)).size=es.size+1:=by rw [<-bH,p.length_eq,aN];rfl
 refine ⟨_,?_,z,p⟩
 have ft:=Ep (led:=led) (on.trans (congrArg (· +1) l)) (bK f)
 show (oA es _ (k,x),(Nl (HC P j) led).orStandIn (oA es ((Nl P led).put j).2 (k,x)).size,false,!(Nl (HC P j) led).fits (oA es ((Nl P led).put j).2 (k,x)).size)=_
 unfold SetTable.orStandIn
 rw [z,ft];rfl
theorem VB (D:Fc G h a o es ep P js) (hk:0<=k/\k<64) (f:js.length<=3) {Q:Bool->aK->Prop}
  (c:∀b h' js',gJ a h h'->Ha G h' a js'->(js'=js/\k∈js\/k∉js/\js'.Perm (js++[k]))->Q b (G.at h' tk)):aO (model G.p G.w) A (setAddHashed a (.int k t) (hashInt k)) Q E (G.at h tk):=by
 have hel:=D.elems
 have z:es.size=js.length:=by rw [<-D.keys,aI,bH]
 have hf:=Ep (led:= !Yv G) D.len D.four
 unfold setAddHashed setAddHashedIn
 refine bX (aA (nZ (s:=G.at h tk) D.get D.data hf ?_))
 dsimp only
 rw [byScan_of (x:= .int k t) rfl (aX D.four (by decide)) hel,if_pos rfl]
 unfold setAddByScan
 refine aA (aA (nE (aA (wpAny_setScan_of (s:=G.at h tk) (knd:=intKind G.p G.w) (k:=k) (qO ..) D.get D.data hf hel ?_))))
 have MF {e:Int×aG} (m:e∈es.toList) (q:(intKind G.p G.w).is k e.2=true):k∈js:=by
  rw [<-D.keys]
  obtain ⟨n,t,rfl⟩:=D.ent e m
  exact aT.2 ⟨_,m,of_decide_eq_true q⟩
 cases hr:List.findIdx? (λe=>(intKind G.p G.w).is k e.2) es.toList with
 | some j=>
  dsimp only
  obtain ⟨hj,hpj,_⟩:=List.findIdx?_eq_some_iff_getElem.mp hr
  exact aH (aH (c false h js (.refl ..) ⟨o,es,ep,P,D⟩ (.inl ⟨rfl,MF (List.getElem_mem hj) hpj⟩)))
 | none=>
  dsimp only
  have no:k∉js:=λm=>by
   rw [<-D.keys] at m
   obtain ⟨e,m,ek⟩:=aT.1 m
   obtain ⟨n,t,rfl⟩:=D.ent e m
   have q:=List.findIdx?_eq_none_iff.mp hr _ m
   rw [show n=k from ek,qO] at q
   exact nomatch q
  obtain ⟨j,fj,rj,lj⟩:=XY (led:= !Yv G) (h:=hashInt k) D.rise (by rw [D.len,z];exact f) (by rw [XR hk];exact hk)
  obtain ⟨es1,e1,z1,p1⟩:=aEy D.len (by rw [z];exact f) fj lj (x:= .int k t)
  rw [e1]
  dsimp only
  refine aA (aH ?_)
  refine aA (qY (hashByValue_scannable 8 rfl) ?_)
  have z4:es1.size<=4:=by rw [z1,z];exact bK f
  have full:(Nl (HC P j) (!Yv G)).tooFull=false:=decide_eq_false (show ¬ ((HC P j).length+0)*5>=7*3 by rw [lj,D.len,z];exact Nat.not_le.2 (aX (Nat.mul_le_mul_right 5 (bK f)) (by decide)))
  refine aA (wpAny_storeSet_of (s:=G.at h tk) (t':=Nl (HC P j) (!Yv G)) D.get D.data ?_ (aB z4 (by decide)))
  show aO _ _ (if (!false&&(Nl (HC P j) (!Yv G)).tooFull)=true then _ else _) _ _ _
  rw [full]
  have g:=hM (Obj.putSet es1 (Nl (HC P j) (!Yv G))) D.get (by rw [putSet_of _ _ D.data];rfl)
  rw [putSet_of _ _ D.data] at g
  refine aH (aH (c true _ _ (gX ..) ⟨_,es1,_,HC P j,g,D.ex,rfl,rj,by rw [lj,z1,D.len],z4,λe m=> ?_,rfl⟩ (.inr ⟨no,?_⟩)))
  ·exact (aV.1 (p1.mem_iff.1 m)).elim (D.ent e) λm=>⟨k,t,aC.1 m⟩
  ·have q:=p1.map NW
   rw [cS,D.keys] at q
   exact q
end
noncomputable def Ef (G:Gr):Obj:={cls:= .type "set",dict:=none,data:= .set #[] 0 (.fresh 0 0 (!Yv G))}
section
variable {G:Gr} {A:dT} {E:aG->aK->Prop} {h h':Heap} {a:Addr} {o:Obj} {es:Array (Int×aG)} {ep k0:Nat} {P:List Nat} {js:List Int} {k:Int} {t:Tok} {tk:Nat}
theorem UZ (x:aG) {Q:aG->aK->Prop} (c:Q (.ref h.objs.size) (G.at (h.push (Ef G)) tk)):codeAny (model G.p G.w) A (.call (.builtin "set.__new__") ⟨[.type "set",x],[]⟩) (wants Q E) (G.at h tk):=by
 refine codeAny_of_tree ?_
 show aO _ A.in1 (do checkBuiltinCall "set.__new__" ⟨[.type "set",x],[]⟩;again (.builtin "set.__new__" ⟨[.type "set",x],[]⟩)) _ _ _
 refine aA (qY (PySem.F.newCall_set_1 x) (aH ⟨tN Db _,kD PySem.F.entry_set_new ?_⟩))
 rw [iD Db _]
 show aO _ _ (wN "set" ⟨[.type "set",x],[]⟩>>=λr=>newSet r.1>>=λv=>ret v) _ _ _
 refine aA ?_
 unfold wN
 refine aA (qY (a:=true) rfl ?_)
 refine aA (qY (a:=true) sub_set_self ?_)
 refine aH ?_
 refine aA ?_
 unfold newSet setsByText
 refine aA (aA (mO (aH ?_)))
 exact aA (wpAny_alloc (aH (aH c)))
noncomputable def zJ (js l:List Int):Prop:=js.Nodup/\∀x,x∈js↔x∈l
theorem zJ.len {l:List Int} (H:zJ js l):js.length<=l.length:=sZ H.1 λx m=>(H.2 x).1 m
theorem zJ.add {l js':List Int} (H:zJ js l) (c:js'=js/\k∈js\/k∉js/\js'.Perm (js++[k])):zJ js' (l++[k]):=by
 have m {x:Int} {l:List Int}:x∈l++[k]↔x∈l\/x=k:=aV.trans (or_congr Bi aC)
 rcases c with ⟨e,hk⟩ | ⟨n,p⟩
 ·rw [e]
  exact ⟨H.1,λx=>(H.2 x).trans (Uq ⟨.inl,λh=>h.elim id λe=>by rw [e];exact (H.2 k).1 hk⟩ m.symm)⟩
 ·exact ⟨p.nodup_iff.2 (bB.2 ⟨H.1,fP ..,λa ma b mb e=>n (by rw [<-aC.1 mb,<-e];exact ma)⟩),λx=>p.mem_iff.trans (m.trans (Uq (or_congr (H.2 x) Bi) m.symm))⟩
theorem Ha.at {D:Addr} (d:Ha G h D js) (e:∀o,h.get? D=some o->h'.get? D=some o):Ha G h' D js:=d.imp λo d=>d.imp λes d=>d.imp λep d=>d.imp λP d=>⟨e o d.get,d.ex,d.data,d.rise,d.len,d.four,d.ent,d.keys⟩
theorem NI {D I:Addr} {fp:List Addr} {ws:Array aG} {is:List Int} {S:Nat->Heap->Prop} (W:Un G.p G.w A.in1 I fp [I] ws.size (λi v=>ws[i]? =some v) S) (hI:lR ws.toList is) (b:∀x,x∈is->0<=x/\x<64) (l4:is.length<=4) (hDf:D∉fp) (hDI:D≠I) {hB:Heap} {R:wJ->aK->Prop}
  (c:∀h' tk js,Ha G h' D js->zJ js is->cU [D,I] hB h'->R (.ok (.ret .none)) (G.at h' tk)):
  ∀ (m i:Nat) (h:Heap) (tk:Nat) (js:List Int),i+m=ws.size->S i h->Ha G h D js->zJ js (is.take i)->(∀b o,b∉[D,I]->hB.get? b=some o->h.get? b=some o)->hB.objs.size<=h.objs.size->
  codeAny (model G.p G.w) A (.builtin "set.update.loop" ⟨[.ref D,.ref I],[]⟩) R (G.at h tk):=by
 have kI {b:Addr} (x:b∉[D,I]):b∉[I]:=λm=>x (.tail _ m)
 have dI:D∉[I]:=λm=>hDI (aC.mp m)
 have len:ws.size=is.length:=bH.symm.trans hI.length
 intro m
 induction m with
 | zero=>
  intro i h tk js him hsx hd H hkp z
  have him:i=ws.size:=him
  rw [him] at hsx H
  refine kD pY ?_
  rw [iD kJ _]
  show aO _ _ (pyNext (.ref I)>>=_) _ _ _
  refine aA (iB (W.done (G.at h tk) _ _ hsx λh' tk' kp z'=> ?_))
  rw [kO (bT len.symm)] at H
  exact aH (c h' tk' js (hd.at λo=>kp _ _ dI) H ⟨λb o x e=>kp b o (kI x) (hkp b o x e),aB z z'⟩)
 | succ m ih=>
  intro i h tk js him hsx hd H hkp z
  have hin:i<ws.size:=him▸gM (jN m)
  refine kD pY ?_
  rw [iD kJ _]
  show aO _ _ (pyNext (.ref I)>>=_) _ _ _
  refine aA (iB (W.item i (G.at h tk) _ _ hin hsx λv h1 tk1 hPv hsx1 kp z'=> ?_))
  obtain ⟨t,rfl⟩:=IntsAre.int_at hI i v (eS.trans hPv)
  have hi:i<is.length:=len▸hin
  have hk:is[i]? =some (is.getD i 0):=by rw [cD,bZ hi];rfl
  have bk:=b _ (Ds hk)
  have tk1:is.take (i+1)=is.take i++[is.getD i 0]:=by rw [rT,hk];rfl
  obtain ⟨o,es,ep,P,d⟩:=hd.at (h':=h1) λo=>kp _ _ dI
  show aO _ _ (holding [jE _ t] (setAdd D (.int _ t))>>=_) _ _ _
  refine aA (bX ?_)
  unfold setAdd
  refine bX (aA ((intKind G.p G.w).pyHash (k:=is.getD i 0) (qO ..) ?_))
  refine VB d bk (aB H.len (by rw [zU];exact aB (Cg ..) (jZ (bA hi l4)))) λb' h2 js' sb d2 cs=> ?_
  exact aH ⟨tN kJ _,ih (i+1) h2 _ js' ((lD i 1 m).trans him) (W.frame _ _ _ hsx1 λb hb o e=>(sb.2 _ λe=>hDf (e▸hb)).trans e) d2 (by rw [tk1];exact H.add cs) (λb o x e=>(sb.2 _ λe=>x (e▸ .head _)).trans (kp b o (kI x) (hkp b o x e))) (aB z (aB z' (bT sb.1.symm)))⟩
end
section
variable {G:Gr} {A:dT} {E:aG->aK->Prop} {h h':Heap} {a l:Addr} {o:Obj} {es:Array (Int×aG)} {ep k0:Nat} {P:List Nat} {js is:List Int} {k:Int} {t:Tok} {tk:Nat} {ws:Array aG}
theorem VA:Ha G (h.push (Ef G)) h.objs.size []:=⟨Ef G,#[],0,[],bC _ rfl,⟨rfl,rfl,rfl⟩,rfl,rfl,rfl,by decide,λe m=>absurd m bN,rfl⟩
theorem NK (hh:A.handled=none) (hl:h.IsList l ws) (hI:lR ws.toList is) (b:∀x,x∈is->0<=x/\x<64) (l4:is.length<=4) {R:wJ->aK->Prop}
  (c:∀h' tk js,Ha G h' h.objs.size js->zJ js is->cU [] h h'->R (.ok (.ret .none)) (G.at h' tk)):
  aO (model G.p G.w) A.in1 (Az ⟨[.ref h.objs.size,.ref l],[]⟩)
   (λfin s'=>match fin with | .done f=>R (.ok f) s' | .again c'=>c'.quiet=true/\codeAny (model G.p G.w) A c' R s') (λe s'=>R (.error e) s') (G.at (h.push (Ef G)) tk):=by
 have g0:(h.push (Ef G)).get? h.objs.size=some (Ef G):=bC _ rfl
 have hT:qC (G.at (h.push (Ef G)) tk) (.ref h.objs.size) "set":=⟨_,g0,rfl⟩
 have hl1:(h.push (Ef G)).IsList l ws:=hl.push _
 have hTl:qC (G.at (h.push (Ef G)) tk) (.ref l) "list":=hl1.elim λo p=>⟨o,p.1,p.2.1⟩
 have lt:l<h.objs.size:=hl.elim λo p=>dG p.1
 unfold Az
 refine aA (m:=noKeywords "set" _) (aH ?_)
 refine aA ?_
 unfold typeNameOfCut shownTypeOf
 refine aA (aA (rJ hT ?_))
 rw [if_neg (by decide)]
 refine aH (aH (aA (aH (aA (aH (aA ?_))))))
 unfold setUsed
 refine aA (nZ (s:=G.at (h.push (Ef G)) tk) (t:= .fresh 0 0 (!Yv G)) g0 rfl rfl (aH ?_))
 show aO _ _ (uS "set.__init__" h.objs.size (.ref l)>>=λY=>ret .none) _ _ _
 refine aA ?_
 unfold uS
 refine aA ?_
 unfold Pw
 refine aA (m:=isInstance _ _) (mN hTl PySem.F.sub_list_set ?_)
 refine mN hTl PySem.F.sub_list_frozenset ?_
 refine aA (rJ hTl ?_)
 rw [if_neg (by decide)]
 have neI:l≠(h.push (Ef G)).objs.size:=by rw [cO];exact fX (gZ lt)
 have neD:h.objs.size≠(h.push (Ef G)).objs.size:=by rw [cO];exact fX (cI _)
 refine aA (rN (s:=G.at (h.push (Ef G)) tk) hl1 (aA (wpAny_runValue ?_)))
 refine NI (A:=A.in1) (D:=h.objs.size) (hB:=h) (Pp (A:=A.in1.in1) hh (h.push (Ef G)).objs.size l neI ws) hI b l4 (λm=>(aJ.1 m).elim neD λm=>vO lt (aC.1 m)) neD ?_ ws.size 0 _ tk [] (eH _) ⟨⟨_,bC _ rfl,rfl,rfl⟩,hl1.push _⟩ (VA.at λo e=>bI _ e) ⟨.nil,λx=>Bi⟩ (λx o' m e=>bI _ (bI _ e)) ((cU.push (wr:=[]) h (Ef G)).trans (.push _ _)).2
 intro h' tk' js d H kp
 refine aH (aH (c h' tk' js d H ⟨λx o' Y e=>kp.1 x o' (λm=> ?_) e,kp.2⟩))
 have lx:=dG e
 rcases aJ.1 m with e' | m
 ·exact fX lx e'
 ·rw [aC.1 m,cO] at lx
  exact Nat.not_succ_lt_self lx
theorem NL (hh:A.handled=none) (hl:h.IsList l ws) (hI:lR ws.toList is) (b:∀x,x∈is->0<=x/\x<64) (l4:is.length<=4) {Q:aG->aK->Prop}
  (c:∀h' tk js,Ha G h' h.objs.size js->zJ js is->cU [] h h'->Q (.ref h.objs.size) (G.at h' tk)):aO (model G.p G.w) A (call (.type "set") [.ref l]) Q E (G.at h tk):=by
 obtain ⟨x,tl,hmro⟩:=hZ.mro
 have hmade:=hZ.made
 have hsub:=hZ.sub
 refine Hb (codeAny_of_tree ?_)
 show aO _ _ (callAny (.type "set") _) _ _ _
 refine aH ⟨Code.quiet_builtin _ (by decide+kernel),kD PySem.F.entry_type_call ?_⟩
 rw [Around.under_plain (weight_type_call_type "set" [.ref l] []) rfl]
 have h1:=hZ.notType
 have h2:=hZ.canCreate
 have hct:=PySem.F.typeCall_set_1 (.ref l)
 repeat (any_goals (first | assumption | wp_step))
 refine Il (UZ (E:=E) (Q:=λobj s₁=>obj= .ref h.objs.size/\s₁=G.at (h.push (Ef G)) tk) (.ref l) ⟨rfl,rfl⟩) λr s₁ hr=> ?_
 cases r with
 | error e=>exact hr
 | ok fl=>
  cases fl with
  | ret obj=>
   obtain ⟨rfl,rfl⟩:=hr
   have hT:qC (G.at (h.push (Ef G)) tk) (.ref h.objs.size) "set":=⟨_,bC _ rfl,rfl⟩
   have hli:=hZ.init.lookup
   have hbi:=hZ.init.bind (.ref h.objs.size)
   repeat (any_goals (first | assumption | wp_step))
   refine Il (codeAny_call_builtin (R:=wants (λr s₂=>r= .none/\∃h' tk' js,s₂=G.at h' tk'/\Ha G h' h.objs.size js/\zJ js is/\cU [] h h') E) hZ.init.plain PySem.F.entry_set_init (check_set_init_1 hT (NK (A:=A.in1) hh hl hI b l4 λh' tk' js d H kp=>⟨rfl,h',tk',js,rfl,d,H,kp⟩))) λr₂ s₂ hr₂=> ?_
   cases r₂ with
   | error e=>exact hr₂
   | ok fl₂=>
    cases fl₂ with
    | ret r=>
     obtain ⟨rfl,h',tk',js,rfl,d,H,kp⟩:=hr₂
     exact aH (aH (c h' tk' js d H kp))
    | _=>exact hr₂.elim
  | _=>exact hr.elim
end
theorem Tt:entryFor table "set.__iter__"=some uR:=entryFor_alias (id':="frozenset.__iter__") (by kernel_rfl) rfl (by decide+kernel) (by kernel_rfl)
theorem vW:Slot "set_iterator" "__next__" "set_iterator.__next__":=
 .of (owner:="set_iterator") (n:="__next__") (by rw [typeLookup_type,Cz];kernel_rfl) (by decide+kernel) (by decide+kernel) (by decide+kernel)
  (by first | exact .inl (by decide+kernel) | exact .inr (by decide+kernel)) (by rw [isSubtype_type];kernel_rfl)
theorem Jq:Slot "set_iterator" "__iter__" "set_iterator.__iter__":=
 .of (owner:="set_iterator") (n:="__iter__") (by rw [typeLookup_type,Cz];kernel_rfl) (by decide+kernel) (by decide+kernel) (by decide+kernel)
  (by first | exact .inl (by decide+kernel) | exact .inr (by decide+kernel)) (by rw [isSubtype_type];kernel_rfl)
theorem Ts:entryFor table "set_iterator.__next__"=some sL:=entryFor_of_tree (by kernel_rfl)
theorem Zy:Manifest.owners.lookup (String.ofList ['r','o','t','a','r','e','t','i','_','t','e','s'].reverse)=some Manifest.sig_set_iterator:=by kernel_rfl
theorem Wm (a:aG):argsOk "set_iterator.__next__" ⟨[a],[]⟩:=by
 unfold argsOk;rw [signature?_of (id:="set_iterator.__next__") (n:=['_','_','t','x','e','n','_','_']) (o:=['r','o','t','a','r','e','t','i','_','t','e','s']) (by kernel_rfl) Zy];kernel_rfl
theorem Wn (a:aG):argsOk "set_iterator.__iter__" ⟨[a],[]⟩:=by
 unfold argsOk;rw [signature?_of (id:="set_iterator.__iter__") (n:=['_','_','r','e','t','i','_','_']) (o:=['r','o','t','a','r','e','t','i','_','t','e','s']) (by kernel_rfl) Zy];kernel_rfl
noncomputable def Ln (G:Gr) (a:Addr) (ep:Nat) (es:Array (Int×aG)):Array (Int×aG):=bif Yv G then pickOrder (G.w.params.setOrder a ep) es else es
section
variable {G:Gr} {A:dT} {E:aG->aK->Prop} {h h':Heap} {a l it:Addr} {o:Obj} {es:Array (Int×aG)} {ep k0 i:Nat} {P:List Nat} {js is:List Int} {k:Int} {t:Tok} {tk:Nat} {ws:Array aG}
theorem HA (f:Nat->Nat):∀ (n k:Nat) (l:List (Int×aG)) (out:Array (Int×aG)),l.length=n->(Ik f n k l out).toList.Perm (out.toList++l)
 | 0=>λk l out h=>by
  rw [jS h,cN];exact .refl _
 | n+1=>λk l out h=>by
  have lt:f k%l.length<l.length:=wO _ (by rw [h];exact jN n)
  have e:Ik f (n+1) k l out=(match l[f k%l.length]? with | some x=>Ik f n (k+1) (l.eraseIdx (f k%l.length)) (out.push x) | none=>out):=by kernel_rfl
  rw [e,bZ lt]
  refine (HA f n (k+1) (l.eraseIdx (f k%l.length)) (out.push l[f k%l.length]) (by rw [List.length_eraseIdx_of_lt lt,h];rfl)).trans ?_
  rw [lW,bU]
  exact (List.Perm.refl _).append (by rw [List.eraseIdx_eq_take_drop_succ];exact (show (l[f k%l.length]::(l.take (f k%l.length)++l.drop (f k%l.length+1))).Perm l from List.perm_middle.symm.trans (by rw [<-List.drop_eq_getElem_cons lt,List.take_append_drop])))
theorem Lm:(Ln G a ep es).toList.Perm es.toList:=by
 unfold Ln
 cases Yv G with
 | true=>exact (HA _ _ 0 es.toList #[] bH).trans (.refl _)
 | false=>exact .refl _
theorem Ll:(Ln G a ep es).size=es.size:=by rw [<-bH,Lm.length_eq,bH]
noncomputable def Js (G:Gr) (P:List Nat) (i:Nat):Nat:=bif Yv G then 0 else slotAt P i
theorem WI (D:Fc G h a o es ep P js) (hi:i<=es.size) {Q:Option (aG×Nat)->aK->Prop} (c:Q ((Ln G a ep es)[i]?.map λe=>(e.2,Js G P (i+1))) (G.at h tk)):aO (model G.p G.w) A (setNext a (Js G P i) i ep) Q E (G.at h tk):=by
 unfold setNext
 have st {Q:(Array (Int×aG)×Nat×SetTable)->aK->Prop} (c:Q (es,ep,Nl P (!Yv G)) (G.at h tk)):aO (model G.p G.w) A (setState a) Q E (G.at h tk):=nZ (s:=G.at h tk) D.get D.data (Ep D.len D.four) c
 refine aA (st (aA ?_))
 unfold setsByText
 refine aA (mO (aH ?_))
 unfold Ln Js at*
 show aO _ _ (if Yv G=true then _ else _) _ _ _
 revert c
 cases hb:Yv G with
 | true=>
  intro c
  rw [if_pos rfl,if_neg (by rw [bne_self_eq_false];exact cP)]
  refine aA ?_
  unfold setWalk
  refine aA (st (aA ?_))
  unfold setsByText
  refine aA (mO (aH ?_))
  show aO _ _ (if Yv G=true then _ else _) _ _ _
  rw [if_pos hb]
  exact aA (mO (aH (aH c)))
 | false=>
  intro c
  rw [if_neg cP]
  have w:wI P.toArray (slotAt P i)=i:=sP (Po (Pn aCn D.rise (by rw [D.len];exact D.four)) (oE (by rw [D.len];exact hi)))
  dsimp only
  refine uM (λhab=>absurd (show false=true from hab) cP) λY=> ?_
  refine aA (aH ?_)
  show aO _ _ (pure (match es[wI P.toArray (slotAt P i)]?,P.toArray[wI P.toArray (slotAt P i)]? with | some (_,x),some j=>some (x,j+1) | _,_=>none)) _ _ _
  rw [w]
  refine aH ?_
  have c:Q (Ba (λe=>(e.2,slotAt P (i+1))) es[i]?) (G.at h tk):=c
  rcases jF hi with l | l
  ·have l':i<P.length:=D.len▸l
   rw [fA l] at c⊢
   rw [sQ,bZ l']
   have c:Q (some (es[i].2,P.getD i 0+1)) (G.at h tk):=c
   rw [show P.getD i 0=P[i] by rw [cD,bZ l'];rfl] at c
   exact c
  ·rw [nJ (bT l.symm)] at c⊢
   exact c
end
section
variable {G:Gr} {A:dT} {E:aG->aK->Prop} {h h':Heap} {a l it:Addr} {o:Obj} {es:Array (Int×aG)} {ep k0 i:Nat} {P:List Nat} {js is:List Int} {k:Int} {t:Tok} {tk:Nat} {ws:Array aG}
noncomputable def UD (G:Gr) (h:Heap) (it a:Addr) (P:List Nat) (i n ep:Nat):Prop:=∃o,h.get? it=some o/\o.cls= .type "set_iterator"/\o.data= .fields #[.int (Js G P i) 0,.int i 0,.ref a,.int n 0,.int ep 0]
theorem UD.typeIs (x:UD G h it a P i k0 ep):qC (G.at h tk) (.ref it) "set_iterator":=let ⟨o,ho,hc,_⟩:=x;⟨o,ho,hc⟩
theorem UD.at (x:UD G h it a P i k0 ep) (e:∀o,h.get? it=some o->h'.get? it=some o):UD G h' it a P i k0 ep:=let ⟨o,ho,r⟩:=x;⟨o,e o ho,r⟩
theorem Fc.at (d:Fc G h a o es ep P js) (e:∀o,h.get? a=some o->h'.get? a=some o):Fc G h' a o es ep P js:=⟨e o d.get,d.ex,d.data,d.rise,d.len,d.four,d.ent,d.keys⟩
theorem Fc.typeIs (d:Fc G h a o es ep P js):qC (G.at h tk) (.ref a) "set":=⟨o,d.get,d.ex.1⟩
noncomputable def aOq (a:Addr) (n ep:Nat):Obj:={cls:= .type "set_iterator",data:= .fields #[rawInt 0,rawInt 0,.ref a,rawInt n,rawInt ep]}
theorem NH:Js G P 0=0:=by unfold Js;cases Yv G<;>rfl
theorem NJ (D:Fc G h a o es ep P js) {Q:aG->aK->Prop} (c:Q (.ref h.objs.size) (G.at (h.push (aOq a es.size ep)) tk)):aO (model G.p G.w) A (pyIter (.ref a)) Q E (G.at h tk):=by
 refine wpAny_pyIter_slot D.typeIs Da (fO Da D.typeIs Tt ?_ (PySem.F.args_set_iter_1 _))
 have st {A:dT} {E:aG->aK->Prop} {Q:(Array (Int×aG)×Nat×SetTable)->aK->Prop} (c:Q (es,ep,Nl P (!Yv G)) (G.at h tk)):aO (model G.p G.w) A (setState a) Q E (G.at h tk):=nZ (s:=G.at h tk) D.get D.data (Ep D.len D.four) c
 unfold uR
 refine aA (aH ?_)
 refine aA (aA ?_)
 unfold setEntries
 refine aA (st (aH (aH ?_)))
 refine aA ?_
 unfold setDrawn
 refine aA (st (aA ?_))
 unfold setsByText
 refine aA (mO (aH (aH ?_)))
 dsimp only
 refine uM (λhab=>absurd (show (!Yv G&&false)=true from hab) (by rw [mS];exact cP)) λY=> ?_
 refine aA (aH (aA ?_))
 unfold setEpoch
 refine aA (st (aH ?_))
 refine aA (iL (aH ⟨_,rfl,"set_iterator",_,⟨_,bC _ rfl,rfl⟩,vW.lookup,?_⟩))
 exact c
theorem aFd:UD G (h.push (aOq a k0 ep)) h.objs.size a P 0 k0 ep:=⟨_,bC _ rfl,rfl,by rw [NH];rfl⟩
theorem XM {Q:aG->aK->Prop} (x:UD G h it a P i k0 ep) (c:Q (.ref it) (G.at h tk)):aO (model G.p G.w) A (pyIter (.ref it)) Q E (G.at h tk):=by
 refine wpAny_pyIter_slot x.typeIs Jq (fO Jq x.typeIs (b:=Builtin.«dict_keyiterator.__iter__») (entryFor_alias (id':="dict_keyiterator.__iter__") (by kernel_rfl) rfl (by decide+kernel) (by kernel_rfl)) ?_ (Wn _))
 show aO _ _ (ret (.ref it)) _ _ _
 exact aH ⟨_,rfl,"set_iterator",_,x.typeIs,vW.lookup,c⟩
theorem HZ (hh:A.handled=none) (x:UD G h it a P i es.size ep) (D:Fc G h a o es ep P js) (hi:i<=es.size) {Q:Option aG->aK->Prop} (c1:∀v h',(Ln G a ep es)[i]?.map fU=some v->UD G h' it a P (i+1) es.size ep->gJ it h h'->Q (some v) (G.at h' tk)) (c2:(Ln G a ep es)[i]? =none->∀h',Mw it h h'->Q none (G.at h' tk)):aO (model G.p G.w) A (pyNext (.ref it)) Q E (G.at h tk):=by
 obtain ⟨oi,ho,hc,hd⟩:=id x
 unfold pyNext
 refine aA (Gn (jY (name:=aZ "__next__") x.typeIs vW (fO vW x.typeIs Ts ?_ (Wm _))))
 unfold sL
 refine aA (aH (aA (wpAny_fieldsOf ho hd ?_)))
 dsimp only
 refine aA ?_
 unfold setEntries
 refine aA (nZ (s:=G.at h tk) D.get D.data (Ep D.len D.four) (aH ?_))
 rw [if_neg (by rw [bne_self_eq_false];exact cP)]
 refine aA ?_
 rw [fS,fS,fS]
 refine WI D hi ?_
 revert c1 c2
 cases (Ln G a ep es)[i]? with
 | some e=>
  intro c1 _
  show aO _ _ (setField (.ref it) 0 (rawInt (Js G P (i+1):Nat))>>=λY=>setField (.ref it) 1 (rawInt ((i:Int)+1))>>=λY=>ret e.2) _ _ _
  refine aA (rK (s:=G.at h tk) ho hd (show 0<5 by decide) ?_)
  have g1:=hM (Obj.mapFields (·.setIfInBounds 0 (rawInt (Js G P (i+1):Nat)))) ho (sM (lC hd _))
  have d1:=lC hd (·.setIfInBounds 0 (rawInt (Js G P (i+1):Nat)))
  refine aA (rK (s:=G.at _ tk) g1 d1 (show 1<5 by decide) ?_)
  have g2:=hM (Obj.mapFields (·.setIfInBounds 1 (rawInt ((i:Int)+1)))) g1 (sM (lC d1 _))
  exact aH ⟨_,rfl,aH (c1 e.2 _ rfl ⟨_,g2,(yD ..).trans ((yD ..).trans hc),lC d1 _⟩ ((gX ..).trans (gX ..)))⟩
 | none=>
  intro _ c2
  show aO _ _ (setField (.ref it) 2 .none>>=λY=>newExc (.type "StopIteration") []>>=raiseNew) _ _ _
  refine aA (rK (s:=G.at h tk) ho hd (show 2<5 by decide) ?_)
  refine Qw (show A.in1.handled=none from hh) λo1 o2 hf hc=> ?_
  refine aA (mN (T:="StopIteration") (b:=true) ⟨_,bC _ hf,hc⟩ isSubtype_stop ?_)
  exact aH (c2 rfl _ (((gX ..).extBut.push _).push _))
end
section
variable {G:Gr} {A:dT} {E:aG->aK->Prop} {h h':Heap} {a l it:Addr} {o:Obj} {es:Array (Int×aG)} {ep k0 i:Nat} {P:List Nat} {js is:List Int} {k:Int} {t:Tok} {tk:Nat} {ws:Array aG}
theorem Fc.sh (d:Fc G h a o es ep P js) (s:aK):Fc {G with s:=s} h a o es ep P js:=⟨d.get,d.ex,d.data,d.rise,d.len,d.four,d.ent,d.keys⟩
theorem KA (hh:A.handled=none) (ne:a≠it) (o:Obj) (js:List Int):Un G.p G.w A it [it,a] [it] es.size (λi v=>(Ln G a ep es)[i]?.map fU=some v) (λi h=>UD G h it a P i es.size ep/\Fc G h a o es ep P js) where
 sub b m:=aJ.2 (.inl (aC.1 m))
 frame i h h' st k:=⟨st.1.at (k it (.head _)),st.2.at (k a (.tail _ (.head _)))⟩
 item i s Q E hi st q:=HZ (G:={G with s:=s}) (tk:=s.toks) hh st.1 (st.2.sh s) (iN hi) (λv h' e x sb=>q v h' s.toks e ⟨x,st.2.at λo e=>(sb.2 a ne).trans e⟩ λb o m e=>(sb.2 b λe=>m (aC.2 e)).trans e) λe=>by
  rw [fA (Ll.symm▸hi)] at e
  exact nomatch e
 done s Q E st q:=HZ (G:={G with s:=s}) (tk:=s.toks) hh st.1 (st.2.sh s) (bM _) (λv h' e=>by
  rw [nJ (bT Ll)] at e
  exact nomatch e) λY h' eb=>q h' s.toks λb o m e=>eb b o (λe=>m (aC.2 e)) e
 self i s Q E st q:=XM (G:={G with s:=s}) (tk:=s.toks) st.1 q
theorem UY (o:Obj) (js:List Int):KdlSrc G.p G.w "set" a a es.size (λi v=>(Ln G a ep es)[i]?.map fU=some v) (λh=>Fc G h a o es ep P js) where
 type s D:=⟨o,D.get,D.ex.1⟩
 there h D:=⟨dG D.get,dG D.get⟩
 keep h h' D k:=D.at (k a (.inl rfl))
 notList:=by decide
 notTuple:=by decide
 hint A E s Q D q:=by
  have hT:s.TypeIs (.ref a) "set":=⟨o,D.get,D.ex.1⟩
  unfold Builtin.List.listLengthHint
  refine aA (iT hT PySem.F.slot_set_len.lookup ?_)
  generalize hid:("set.__len__":String)=id0
  wp_delta
  rw [show splitId id0=some ("set","__len__") from by subst hid;decide+kernel]
  subst hid
  refine aA (mN (T:="set") (b:=true) hT sub_set_self ?_)
  refine uM (λhab=>absurd hab (by decide)) (λY=> ?_)
  refine uM (λY=> ?_) (λhab=>absurd (by decide+kernel) hab)
  exact aA (rJ hT (aH q))
 iter A s hh D:=⟨aOq a es.size ep,_,λE Q q=>NJ (G:={G with s:=s}) (tk:=s.toks) (D.sh s) q,KA hh (fX (dG D.get)) o js,aFd,D.at λo e=>bI _ e⟩
theorem BD:∀l:List (Int×aG),(∀e,e∈l->∃n t,e=(hashInt n,jE n t))->lR (l.map fU) (l.map NW)
 | []=>λY=> .nil
 | e::l=>λh=>by
  obtain ⟨n,t,rfl⟩:=h _ (.head _)
  exact .cons n t (BD l λe m=>h e (.tail _ m))
theorem Fq {x:Int}:∀l:List Int,x∈dedup l↔x∈l
 | []=>Bi
 | a::r=>by
  show x∈(if r.contains a then dedup r else a::dedup r)↔_
  by_cases c:r.contains a=true
  ·rw [if_pos c,Fq r];exact ⟨.tail _,λh=>(aJ.1 h).elim (λe=>e▸jA.1 c) id⟩
  ·rw [if_neg c,aJ,aJ,Fq r]
theorem Rg:∀l:List Int,(dedup l).Nodup
 | []=> .nil
 | a::r=>by
  show (if r.contains a then dedup r else a::dedup r).Nodup
  by_cases c:r.contains a=true
  ·rw [if_pos c];exact Rg r
  ·rw [if_neg c];exact bV.2 ⟨λm=>c (jA.2 ((Fq r).1 m)),Rg r⟩
theorem walked {vs:List aG} (ent:∀e,e∈es.toList->∃n t,e=(hashInt n,jE n t)) (q:Oq (λi v=>(Ln G a ep es)[i]?.map fU=some v) vs.toArray es.size):∃ns,lR vs ns/\ns.Perm (es.toList.map NW):=by
 have e:vs=(Ln G a ep es).toList.map fU:=Jc λi=>by
  rw [lU,eS (xs:=Ln G a ep es)]
  rcases Iu i vs.length with l | l
  ·have w:=q.2 i vs[i] (sQ.trans (bZ l))
   rw [bZ l,w]
  ·rw [Dd l,nJ (by rw [Ll,<-q.1];exact l)];rfl
 rw [e]
 exact ⟨_,BD _ λe m=>ent e (Lm.mem_iff.1 m),Lm.map NW⟩
theorem QP (G:Gr):Zg G:=λA n k st h mu w is R I d l4 hb tk E Q q=>by
 obtain ⟨a,ws,rfl,hl,ds,_⟩:=d.lst
 have hI:=Ez is _ ds
 have b:∀x,x∈is->0<=x/\x<64:=λx m=>of_decide_eq_true (dH.1 hb x m)
 refine NL R.handled hl hI b l4 λh1 tk1 js sa H kp=> ?_
 obtain ⟨o,es,ep,P,D⟩:=sa
 have pm:js.Perm (dedup is):=(List.perm_ext_iff_of_nodup H.1 (Rg is)).2 λx=>(H.2 x).trans (Fq is).symm
 have z4:(dedup is).length<=4:=by rw [<-pm.length_eq,<-D.keys,aI,bH];exact D.four
 have srt {ns:List Int} (p:ns.Perm js):hJ ns=hJ (dedup is):=Rz (λx=>x) (λY Y e=>e) ((iP ns).trans (p.trans pm)) (dR (motive:=λl=>(hJ l).Pairwise λa b=>a<=b) .nil (λa r i=>Sc (λx=>x) a _ i) ns)
 have z63 {ns:List Int} (p:ns.Perm js):ns.length<=63:=by rw [(p.trans pm).length_eq];exact aB z4 (by decide)
 refine Fg (r:=(hJ (dedup is)).map .int) (D:=λvs=>∃ns,lR vs ns/\ns.Perm js) (R:=λY out=>lR out (hJ (dedup is))) (I.grow kp) (λtk E Q q=>BW (A:=A.in1) (UY (G:=G) (a:=h.objs.size) (es:=es) (ep:=ep) (P:=P) o js) R.handled D (aB D.four (by decide)) tk E Q λvs h' tk' kp qi=>q vs h' tk' kp (D.keys▸walked D.ent qi)) (λvs d=> ?_) ?_ (λh' tk a k vs E P kp d ho q=> ?_) (λh' out Y d=>uK d) tk1 E Q λw h' tk' kp' r=>q w h' tk' (kp.trans kp') r
 ·obtain ⟨ns,i,p⟩:=d
  rw [i.length];exact z63 p
 ·rw [aI,(iP _).length_eq];exact aB z4 (by decide)
 ·obtain ⟨ns,i,p⟩:=d
  exact Jp (z63 p) h' tk a k vs E P kp i ho λout r=>q out (srt p▸r)
end
section
variable {G:Gr} {p:tO} {loose:List Str} {mean:ExcName->Option aG}
noncomputable def aPi:List (Nm×Nm×Nat):=[(.Qp,.Qr,502),(.Tu,.Qq,504),(.Qq,.Tu,506),(.Qr,.Qp,508),(.s_eq,.Qo,510),(.Qo,.s_eq,512)]
noncomputable def aIy (P:Params) (p:Nm×Nm×Nat):lN:={hash:=lB P p.1.str,key:= .str p.1.str p.2.2,val:= .str p.2.1.str (p.2.2+1)}
theorem MY {h:Heap} {Q:Addr->Prop} (P:Params) (x:Str):∀l:List (Nm×Nm×Nat),(∀p,p∈l->nF p.2.1.str=true/\p.2.1.str.cps.size<=bW)->Cd (Dt h Q) (Ed (l.map λp=>(p.1,.str p.2.1.str)) x) (((l.map (aIy P)).find? λe=>(strKind G.p G.w).is x e.key).map (·.val))
 | []=>λY=> .none
 | p::l=>λok=>by
  unfold Ed
  rw [dX,dX,eB,eB]
  show Cd _ (Ba _ (match p.1.str==x with | true=>_ | false=>_)) (Ba _ (match p.1.str==x with | true=>_ | false=>_))
  cases p.1.str==x with
  | true=>exact .some ⟨ok p (.head _),_,rfl⟩
  | false=>exact MY P x l λq m=>ok q (.tail _ m)
structure aMu (G:Gr):Prop where
 n1:nsIn G.K mainGlobals (Nm.str .xE)=some (some (.ref 254))
 n2:∃t,nsIn G.K mainGlobals (Nm.str .Bu)=some (some (.int 1000 t))
 n3:nsIn G.K mainGlobals (Nm.str .Ro)=some (some (.ref 255))
 l1:∃t u,G.K.lookup 253=some {cls:= .type "tuple",data:= .seq #[.int 0 t,.int 1 u]}
 l2:G.K.lookup 254=some {cls:= .type "tuple",data:= .seq #[.ref 253]}
 l3:G.K.lookup 255=some {cls:= .type "dict",data:= .dict (aPi.map (aIy G.w.params)).toArray 6}
theorem XU (KX:G.K.In G.h) (g:G.h.Ns mainGlobals G.mg) (K:aMu G) (x:Nm) (v:V) (e:Nq x=some v):∃w,G.mg (Nm.str x)=some w/\Rep G G.h ⟨[],[]⟩ v w:=by
 have off {a:Addr}:Wd.out ⟨[],[]⟩ a:=⟨bN,bN⟩
 unfold Nq at e
 split at e
 ·rename_i h
  rw [h,<-aF e]
  obtain ⟨t,u,l1⟩:=K.l1
  refine ⟨_,mg_of KX g K.n1,by decide,254,#[.ref 253],rfl,⟨off,_,_,KX _ _ K.l2,rfl,rfl,λY=>rfl⟩,jM.one ⟨by decide,253,_,rfl,⟨off,_,_,KX _ _ l1,rfl,rfl,λY=>rfl⟩,jM.cons ⟨t,rfl⟩ (jM.one ⟨u,rfl⟩)⟩⟩
 ·split at e
  ·rename_i h
   rw [h,<-aF e]
   exact K.n2.elim λt n=>⟨_,mg_of KX g n,t,rfl⟩
  ·split at e
   ·rename_i h
    rw [h,<-aF e]
    refine ⟨_,mg_of KX g K.n3,255,_,rfl,by decide,off,⟨_,_,_,KX _ _ K.l3,⟨rfl,rfl,rfl⟩,rfl,?_,λk=>rfl⟩,λx=> ?_⟩
    ·intro e he
     obtain ⟨p,_,rfl⟩:=aT.1 (List.mem_toArray.1 he)
     exact ⟨_,Hc ..,rfl⟩
    ·have q:=MY (G:=G) (h:=G.h) (Q:=Wd.out ⟨[],[]⟩) G.w.params x aPi (by decide+kernel)
     unfold findBy
     rw [List.find?_toArray]
     exact q
   ·exact cC e
structure TO (G:Gr):Prop where
 Nq:aMu G
 get:∀c,plainGet G.K (G.cl c) ""=true
 QO:∀c,hasDictIn G.K (G.cl c)=true
 VC:∀c,findIn G.K (.ref (G.cl c)) "__setattr__"=some (some (.builtin "object.__setattr__"))
 over:∀c,plainOver G.K (G.cl c)=true
 own:∀c x,attrOk c x=true->findIn G.K (.ref (G.cl c)) (Nm.str x)=some none
 Ta:(["len","abs","int","min","max","sum","sorted","set","tuple","dict","range","zip","isinstance","bool"].all λx=>nsIn G.K mainGlobals (aZ x)==some none)=true
 QX:nsIn G.K mainGlobals (aZ "Flat")=some (some (.ref (G.cl .flat)))
 QT:nsIn G.K mainGlobals (aZ "Functions")=some (some (.ref (G.cl .func)))
 makes:∀c,makesIn G.K (G.cl c)=true
 keep:∀c,keepIn G.K (.ref (G.cl c))=true
theorem ZH (KX:G.K.In G.h) (T:Top p loose mean G.mg G.mb G.h) (S:TO G):Base G where
 MF:=KX
 get:=S.get
 QO:=S.QO
 VC:=S.VC
 over:=S.over
 own:=S.own
 g:=T.g
 b:=T.b
 nolimit:=T.nolimit
 Ta x m:=mg_none_of KX T.g (beq_iff_eq.mp (dH.1 S.Ta x m))
 aGm x m:=(T.builtins _ ((show ∀x:String,x∈["len","abs","min","max","sum","sorted","isinstance"]->aZ x≠aZ "__name__" from by decide+kernel) x m)).trans ((show ∀x:String,x∈["len","abs","min","max","sum","sorted","isinstance"]->bootBuiltins (aZ x)=some (.builtin x) from by decide+kernel) x m)
 FI x m:=(T.builtins _ ((show ∀x:String,x∈["int","set","tuple","dict","range","zip","bool"]->aZ x≠aZ "__name__" from by decide+kernel) x m)).trans ((show ∀x:String,x∈["int","set","tuple","dict","range","zip","bool"]->bootBuiltins (aZ x)=some (.type x) from by decide+kernel) x m)
 aLj:=XU KX T.g S.Nq
theorem aOw {P:Cl->Prop} (a:P .func) (b:P .flat) (c:P .KW):∀c,P c:=λx=>by
 cases x with
 | func=>exact a
 | flat=>exact b
 | KW=>exact c
theorem aOa {P:Cl->Nm->Prop} (a1:P .func .fZ) (a2:P .func .vC) (a3:P .func .gV) (b1:P .flat .vB) (b2:P .flat .sB) (b3:P .flat .Eo) (b4:P .flat .yK) (c:Cl) (x:Nm) (h:attrOk c x=true):P c x:=by
 cases c with
 | func=>
  have m:=jA.1 (show [Nm.fZ,.vC,.gV].contains x=true from h)
  rcases aJ.1 m with e | m
  ·rw [e];exact a1
  ·rcases aJ.1 m with e | m
   ·rw [e];exact a2
   ·rw [aC.1 m];exact a3
 | flat=>
  have m:=jA.1 (show [Nm.vB,.sB,.Eo,.yK].contains x=true from h)
  rcases aJ.1 m with e | m
  ·rw [e];exact b1
  ·rcases aJ.1 m with e | m
   ·rw [e];exact b2
   ·rcases aJ.1 m with e | m
    ·rw [e];exact b3
    ·rw [aC.1 m];exact b4
 | KW=>exact nomatch h
end
section
variable {G:Gr} {p:tO} {loose:List Str} {mean:ExcName->Option aG} {l:List Addr} {tk:Nat} {is:List Int} {vs:List aG} {a fa:Addr}
theorem aFk (KX:G.K.In G.h) (T:Top p loose mean G.mg G.mb G.h) (S:TO G) (rows:Fd G.K G.cl Sk l) (U:aHk G):aMt G:=
 have Fs:=aFl KX T.g rows
 have M:Mk G:=⟨mg_of KX T.g S.QX,mg_of KX T.g S.QT,S.makes,S.keep⟩
 ⟨ZH KX T S,Fs,M,QP G,λSC Y Y Y Y Y Y C hc=>aCc T Fs M SC U C hc⟩
theorem OC {n:Nat} (h:n<=480):Rm callerA n:=⟨rfl,aB (bE h 301) (by decide),aB (cW (bE (fK 20 h) _) 200) (by decide)⟩
theorem QB (r:Rep G G.h ⟨[],[]⟩ (.d (.list (is.map .int))) (.ref a)):Iv G ⟨[],0⟩ [.vs [.d (.list (is.map .int))] [.ref a]] G.h []:=⟨λY Y e=>e,bM _,rfl,.nil,λY m=>absurd m bN,λY Y m=>absurd m bN,.nil,λi m=>by rw [aC.1 m];exact dZ.cons r rfl,.nil,λY m=>absurd m bN,λY m=>absurd m bN⟩
theorem KL (Gd:aMt G) {k:Nat} (hk:k<=240) {st:St} (he:(ev k).C none .En [.d (.list (is.map .int))] ⟨[],0⟩=some (.d (.bool true),st)) (hfa:G.mg (Nm.str .En)=some (.ref fa)) (hL:G.h.IsList a vs.toArray) (hI:lR vs is) (h63:is.length<=63) {R:wJ->aK->Prop}
  (c:∀h' tk,Sub G.h h'->R (.ok (.ret (.bool true))) (G.at h' tk)):codeAny (model G.p G.w) callerA (.call (.ref fa) ⟨[.ref a],[]⟩) R (G.at G.h tk):=by
 obtain ⟨fa',o,fd,bS,ps,ls,body,e1,F⟩:=Gd.Fs.fn .En rfl
 rw [hfa] at e1
 cases e1
 have r:Rep G G.h ⟨[],[]⟩ (.d (.list (is.map .int))) (.ref a):=by
  obtain ⟨o,hl,hc,n,hd⟩:=hL
  exact ⟨by rw [aI];exact aB h63 (by decide),a,_,rfl,⟨⟨bN,bN⟩,o,n,hl,hc,hd,λe=>nomatch e⟩,uK hI⟩
 refine (PN Gd k).C none .En _ _ _ _ he F callerA [] [.ref a] _ R (OC (fK 2 hk)) (Inv.at (QB r)) λw s' I=> ?_
 exact Inv.elim I λh' tk' mu I=>by
  have q:=I.has (v:= .d (.bool true)) (.head _)
  rw [show w= .bool true from q]
  exact c h' tk' I.base
end
noncomputable def clsAt:Cl->Addr
 | .flat=>213
 | .func=>528
 | .KW=>394
section
variable {K:Frag} {cl:Cl->Addr} {r:Row} {rs:List Row} {a:Addr} {l:List Addr}
theorem aNy (h:IT K cl r a=true) (b:Binds K a r.2.2.1) (i:Fd K cl rs l):Fd K cl (r::rs) (a::l):=⟨⟨h,b⟩,i⟩
theorem NZ:Fd K cl [] l:=trivial
end
noncomputable def gr (p:tO) (w:Mu) (s:aK) (K:Frag) (mg mb:Str->Option aG):Gr:=⟨p,w,s.heap,s,clsAt,K,mg,mb⟩
theorem aKs {p q:tO} {w:Mu} {s:aK} {K:Frag} {mg mb:Str->Option aG} {loose:List Str} {mean:ExcName->Option aG} {l:List Addr} {is:List Int} {vs:List aG} {a fa:Addr} {k:Nat} (hk:k<=240) (KX:K.In s.heap) (T:Top q loose mean mg mb s.heap) (S:TO (gr p w s K mg mb)) (rows:Fd K clsAt Sk l) (U:aHk (gr p w s K mg mb))
  {st:St} (he:(ev k).C none .En [.d (.list (is.map .int))] ⟨[],0⟩=some (.d (.bool true),st)) (hfa:mg (Nm.str .En)=some (.ref fa)) (hL:s.heap.IsList a vs.toArray) (hI:lR vs is) (h63:is.length<=63) {R:wJ->aK->Prop}
  (c:∀h' tk,Sub s.heap h'->R (.ok (.ret (.bool true))) {s with heap:=h',toks:=tk}):codeAny (model p w) callerA (.call (.ref fa) ⟨[.ref a],[]⟩) R s:=by
 exact KL (G:=gr p w s K mg mb) (tk:=s.toks) (aFk KX T S rows U) hk he hfa hL hI h63 c
namespace L
inductive An where
 | v (x:V) | u | b (t:Bool) | ds (l:List aE) | it (p:List aE×Option Nat) | fl (p:Fl×List (Nm×V)) | n (k:Nat)
abbrev Fn:=Nat->Option (An×St)
structure Ent where
 tag:Nat
 n:Nat
 F:Fn
 a:An
 s:St
 ok:∀k,n<=k->F k=some (a,s)
structure Em (α:Type) where
 i:α->An
 p:An->Option α
 r:∀x,p (i x)=some x
noncomputable def EV:Em V:=⟨.v,λa=>match a with | .v x=>some x | _=>none,λY=>rfl⟩
noncomputable def EU:Em Unit:=⟨λY=> .u,λY=>some (),λY=>rfl⟩
noncomputable def EB:Em Bool:=⟨.b,λa=>match a with | .b x=>some x | _=>none,λY=>rfl⟩
noncomputable def ED:Em (List aE):=⟨.ds,λa=>match a with | .ds x=>some x | _=>none,λY=>rfl⟩
noncomputable def EI:Em (List aE×Option Nat):=⟨.it,λa=>match a with | .it x=>some x | _=>none,λY=>rfl⟩
noncomputable def EF:Em (Fl×List (Nm×V)):=⟨.fl,λa=>match a with | .fl x=>some x | _=>none,λY=>rfl⟩
noncomputable def EN:Em Nat:=⟨.n,λa=>match a with | .n x=>some x | _=>none,λY=>rfl⟩
abbrev Out (α:Type):=List (Fn×Fn)×α×List Ent×St
abbrev OM (α:Type):=List Ent->St->Option (Out α)
section
variable {α β:Type} {N n:Nat}
noncomputable def mapA (i:α->An) (o:Option (α×St)):Option (An×St):=match o with
 | some q=>some (i q.1,q.2)
 | none=>none
noncomputable def WC {γ δ:Type} (o:Option γ) (f:γ->Option δ):Option δ:=match o with
 | some x=>f x
 | none=>none
noncomputable def ol (m:M α):OM α:=λes st=>WC (m st) λq=>some ([],q.1,es,q.2)
noncomputable def op (a:α):OM α:=λes st=>some ([],a,es,st)
noncomputable def Ov:OM α:=λY Y=>none
noncomputable def ob (w:OM α) (f:α->OM β):OM β:=λes st=>WC (w es st) λr=>WC (f r.2.1 r.2.2.1 r.2.2.2) λq=>some (r.1++q.1,q.2)
noncomputable def oi (t:Bool) (a b:OM α):OM α:=match t with
 | true=>a
 | false=>b
noncomputable def ch (t N:Nat) (E:Em α) (F:Nat->M α) (w:OM α):OM α:=λes st=>match es with
 | []=>w [] st
 | e::r=>bif Bd e.tag t then (bif Iy e.n N then WC (E.p e.a) λx=>some ([(λk=>mapA E.i (F k st),e.F)],x,r,e.s) else none) else bif Bd e.tag (t+100) then w r st else w (e::r) st
noncomputable def pr (t:Nat) (E:Em α) (m:M α):OM α:=ch t 0 E (λY=>m) (ol m)
noncomputable def Sd (m:M α) (w:OM α):Prop:=∀es st r,w es st=some r->(∀q∈r.1,q.1=q.2)->m st=some (r.2.1,r.2.2.2)
theorem Ra {γ δ:Type} {o:Option γ} {f:γ->Option δ} {r:δ} (h:WC o f=some r) {P:Prop} (k:∀x,o=some x->f x=some r->P):P:=by
 cases o with
 | none=>exact nomatch h
 | some x=>exact k x rfl h
theorem Sd.ol {m:M α}:Sd m (ol m):=λes st r h Y=>Ra h λx e h=>by cases h;exact e
theorem Sd.op {a:α}:Sd (pure a) (op a):=λes st r h Y=>by cases h;rfl
theorem Sd.Ov {m:M α}:Sd m Ov:=λes st r h Y=>nomatch h
theorem Sd.bind {m:M α} {w:OM α} {f:α->M β} {g:α->OM β} (h:Sd m w) (k:∀a,Sd (f a) (g a)):Sd (m>>=f) (ob w g):=λes st r e q=>Ra e λx e1 e=>Ra e λy e2 e=>by
 cases e
 exact aY (h _ _ _ e1 λp hp=>q p (aL y.1 hp)) (k _ _ _ y e2 λp hp=>q p (aQ x.1 hp))
theorem Sd.ite {t:Bool} {a b:M α} {u v:OM α} (h:Sd a u) (k:Sd b v):Sd (if t then a else b) (oi t u v):=by
 cases t with
 | true=>exact h
 | false=>exact k
theorem Vz {t:Nat} {E:Em α} {F:Nat->M α} {w:OM α} (hn:N<=n) (hw:Sd (F n) w):Sd (F n) (ch t N E F w):=λes=>by
 cases es with
 | nil=>exact hw []
 | cons e r=>
  intro st x h q
  unfold ch at h
  revert h
  show (bif _ then (bif _ then _ else _) else bif _ then _ else _)=_->_
  cases Bd e.tag t with
  | false=>
   cases Bd e.tag (t+100) with
   | true=>exact λh=>hw _ _ _ h q
   | false=>exact λh=>hw _ _ _ h q
  | true=>
   cases hb:Iy e.n N with
   | false=>exact λh=>nomatch h
   | true=>
    refine λh=>Ra h λy hy h=> ?_
    cases h
    have e1:mapA E.i (F n st)=some (e.a,e.s):=(congrFun (q _ (aC.2 rfl)) n).trans (e.ok n (aB (aP hb) hn))
    revert e1
    cases F n st with
    | none=>exact λh=>nomatch h
    | some z=>
     intro e1
     have e2:E.i z.1=e.a:=congrArg bY (aF e1)
     have e3:z.2=e.s:=congrArg fU (aF e1)
     rw [<-e2,E.r] at hy
     show some z=some (y,e.s)
     rw [<-e3,<-aF hy]
theorem kK {t:Nat} {E:Em α} {m:M α}:Sd m (pr t E m):=Vz (F:=λY=>m) (bM 0) Sd.ol
end
structure Tv where
 E:List (Nm×V)->Ex->OM V
 C:Option Cl->Nm->List V->OM V
 B:List Sx->List (Nm×V)->OM (Fl×List (Nm×V))
noncomputable def oL (E:Ex->OM V):List Ex->OM (List V)
 | []=>op []
 | e::r=>ob (E e) λv=>ob (oL E r) λvs=>op (v::vs)
noncomputable def oO (E:Ex->OM V) (o:Option Ex):OM (Option V):=match o with
 | none=>op none
 | some e=>ob (E e) λv=>op (some v)
noncomputable def oT (v:V):OM Bool:=pr 10 EB (truthOf v)
noncomputable def aEh (E:Ex->OM V) (e:Ex) (r:List Ex):OM V:=match r with
 | []=>E e
 | e'::r=>ob (E e) λv=>ob (oT v) λt=>oi t (aEh E e' r) (op v)
noncomputable def aOb (E:Ex->OM V) (e:Ex) (r:List Ex):OM V:=match r with
 | []=>E e
 | e'::r=>ob (E e) λv=>ob (oT v) λt=>oi t (op v) (aOb E e' r)
noncomputable def aEf (E:Ex->OM V) (x:V):List (CZ×Ex)->OM V
 | []=>Ov
 | p::r=>ob (E p.2) λy=>ob (pr 3 EV (nC p.1 x y)) λc=>match r with
  | []=>op c
  | _::_=>ob (oT c) λt=>oi t (aEf E y r) (op c)
noncomputable def aBw (x y:V):M (List aE×Option Nat):=do
 let xs<-ofD Kj x
 let ys<-ofD Kj y
 dK (decide (xs.length<=ys.length))
 pure ((xs.zip ys).map λp=> .tuple [p.1,p.2],none)
noncomputable def aNa (E:Ex->OM V) (e:Ex):OM (List aE×Option Nat):=match vM e with
 | some p=>ob (E p.1) λx=>ob (E p.2) λy=>pr 11 EI (aBw x y)
 | none=>ob (E e) λv=>pr 11 EI (Et v)
noncomputable def aEe (E:Ex->OM V):List Ex->OM Bool
 | []=>op true
 | e::r=>ob (E e) λv=>ob (oT v) λt=>oi t (aEe E r) (op false)
noncomputable def oK (E:List (Nm×V)->Ex->OM V) (ρ:List (Nm×V)) (e:Ex) (t:Tg) (ifs:List Ex):List aE->OM (List aE)
 | []=>op []
 | x::xs=>ob (ol (fI (sK t x))) λb=>ob (aEe (E (b++ρ)) ifs) λk=>oi k (ob (E (b++ρ) e) λv=>ob (ol (toD v)) λy=>ob (oK E ρ e t ifs xs) λys=>op (y::ys)) (oK E ρ e t ifs xs)
noncomputable def oF (B:List Sx->List (Nm×V)->OM (Fl×List (Nm×V))) (t:Tg) (body:List Sx) (l:List aE) (ρ:List (Nm×V)):OM (Fl×List (Nm×V)):=match l with
 | []=>op (.next,ρ)
 | x::xs=>ob (ol (fI (sK t x))) λb=>ob (B body (mL b ρ)) λp=>match p.1 with
  | .next=>oF B t body xs p.2
  | .ret v=>op (.ret v,p.2)
section
variable {F:Ex->M V} {E:Ex->OM V}
theorem Wr (h:∀e,Sd (F e) (E e)):∀es,Sd (Yd F es) (oL E es)
 | []=>Sd.op
 | e::r=>Sd.bind (h e) λY=>Sd.bind (Wr h r) λY=>Sd.op
theorem aJi (h:∀e,Sd (F e) (E e)):∀o,Sd (aNf F o) (oO E o)
 | none=>Sd.op
 | some e=>Sd.bind (h e) λY=>Sd.op
theorem NU (h:∀e,Sd (F e) (E e)):∀r e,Sd (ZR F e r) (aEh E e r)
 | []=>λe=>h e
 | e'::r=>λe=>Sd.bind (h e) λY=>Sd.bind kK λY=>Sd.ite (NU h r e') Sd.op
theorem aAm (h:∀e,Sd (F e) (E e)):∀r e,Sd (aMy F e r) (aOb E e r)
 | []=>λe=>h e
 | e'::r=>λe=>Sd.bind (h e) λY=>Sd.bind kK λY=>Sd.ite Sd.op (aAm h r e')
theorem NR (h:∀e,Sd (F e) (E e)):∀r x,Sd (RQ F x r) (aEf E x r)
 | []=>λY=>Sd.Ov
 | [p]=>λY=>Sd.bind (h p.2) λY=>Sd.bind kK λY=>Sd.op
 | p::q::r=>λY=>Sd.bind (h p.2) λy=>Sd.bind kK λY=>Sd.bind kK λY=>Sd.ite (NR h (q::r) y) Sd.op
theorem aAn (h:∀e,Sd (F e) (E e)) (e:Ex):Sd (Np F e) (aNa E e):=by
 unfold Np aNa
 cases vM e with
 | none=>exact Sd.bind (h e) λY=>kK
 | some p=>exact Sd.bind (h p.1) λx=>Sd.bind (h p.2) λy=>kK (m:=aBw x y)
theorem NQ (h:∀e,Sd (F e) (E e)):∀es,Sd (XP F es) (aEe E es)
 | []=>Sd.op
 | e::r=>Sd.bind (h e) λY=>Sd.bind kK λY=>Sd.ite (NQ h r) Sd.op
end
theorem aDa {F:List (Nm×V)->Ex->M V} {E:List (Nm×V)->Ex->OM V} (h:∀ρ e,Sd (F ρ e) (E ρ e)) {ρ:List (Nm×V)} {e:Ex} {t:Tg} {ifs:List Ex}:∀l,Sd (kL F ρ e t ifs l) (oK E ρ e t ifs l)
 | []=>Sd.op
 | x::xs=>Sd.bind Sd.ol λb=>Sd.bind (NQ (h (b++ρ)) ifs) λY=>Sd.ite (Sd.bind (h (b++ρ) e) λY=>Sd.bind Sd.ol λY=>Sd.bind (aDa h xs) λY=>Sd.op) (aDa h xs)
theorem aJj {F:List Sx->List (Nm×V)->M (Fl×List (Nm×V))} {B:List Sx->List (Nm×V)->OM (Fl×List (Nm×V))} (h:∀l ρ,Sd (F l ρ) (B l ρ)) {t:Tg} {body:List Sx}:∀l ρ,Sd (forL F t body l ρ) (oF B t body l ρ)
 | [],_=>Sd.op
 | x::xs,_=>Sd.bind Sd.ol λb=>Sd.bind (h body _) λp=>by
  cases p.1 with
  | next=>exact aJj h xs p.2
  | ret v=>exact Sd.op
noncomputable def aMx (N:Nat) (X:Tv) (c:Option Cl) (f:Nm) (vs:List V):OM V:=ch 1 N EV (λk=>(ev k).C c f vs) (X.C c f vs)
noncomputable def aAi (N:Nat) (X:Tv) (o:O) (c k:Cl) (g:V->OM V):OM V:=ob (ol (Ly o)) λr=>ob (aMx N X (some c) .kC [.inst k r]) λu=>ob (ol (HF u)) λY=>g (.inst k r)
noncomputable def aNo (N:Nat) (X:Tv) (ρ:List (Nm×V)) (e:Ex):OM V:=match e with
 | .v x=>ol do let v<-fI (ρ.lookup x);dK (nB v);pure v
 | .Nq x=>ol (fI (Nq x))
 | .none=>op (.d .none)
 | .bool b=>op (.d (.bool b))
 | .int i=>op (.d (.int i))
 | .str n=>op (.d (.str n.str))
 | .tup es=>ob (oL (X.E ρ) es) λvs=>ol do let l<-Of vs;pure (.d (.tuple l))
 | .lst es=>ob (oL (X.E ρ) es) λvs=>ol do let l<-Of vs;pure (.d (.list l))
 | .zE es=>ob (oL (X.E ρ) es) λvs=>pr 17 EV do let l<-Of vs;let r<-Ly (.list l);pure (.ref r)
 | .Xg=>ol do let r<-Ly (.di []);pure (.ref r)
 | .Wq ks es=>ob (oL (X.E ρ) es) λvs=>ol do let l<-Of vs;pure (.sd (ks.zip l))
 | .bin o a b=>ob (X.E ρ a) λx=>ob (X.E ρ b) λy=>pr 2 EV (binOp o x y)
 | .neg a=>ob (X.E ρ a) λx=>ol do let i<-toInt x;pure (.d (.int (-i)))
 | .not a=>ob (X.E ρ a) λx=>ob (oT x) λt=>op (.d (.bool !t))
 | .and es=>match es with
  | []=>Ov
  | e::r=>aEh (X.E ρ) e r
 | .or es=>match es with
  | []=>Ov
  | e::r=>aOb (X.E ρ) e r
 | .cmp a r=>ob (X.E ρ a) λx=>aEf (X.E ρ) x r
 | .gR c a b=>ob (X.E ρ c) λx=>ob (oT x) λt=>oi t (X.E ρ a) (X.E ρ b)
 | .sub a i=>ob (X.E ρ a) λo=>ob (X.E ρ i) λk=>pr 4 EV (itemOf o k)
 | .Wo a lo hi=>ob (X.E ρ a) λo=>ob (oO (X.E ρ) lo) λl=>ob (oO (X.E ρ) hi) λh=>pr 5 EV (sliceOf o l h)
 | .xN a x=>ob (X.E ρ a) λo=>pr 6 EV (getAttr o x)
 | .call f es=>ob (oL (X.E ρ) es) λvs=>aMx N X none f vs
 | .blt b es=>ob (oL (X.E ρ) es) λvs=>pr 7 EV (builtin b vs)
 | .met o m es=>ob (X.E ρ o) λov=>ob (pr 15 EN (kindOf ov)) λk=>ob (ol (Rd ov m)) λY=>ob (oL (X.E ρ) es) λvs=>match ov with
  | .inst c r=>aMx N X (some c) m (.inst c r::vs)
  | ov=>ob (pr 15 EN (kindOf ov)) λk'=>ob (ol (dK (k==k'))) λY=>pr 8 EV (method ov m vs)
 | .comp e t it ifs=>ob (aNa (X.E ρ) it) λp=>ob (ch 20 N ED (λk=>kL (ev k).E ρ e t ifs p.1) (oK X.E ρ e t ifs p.1)) λys=>ob (pr 16 EU (Og p.2)) λY=>op (.d (.list ys))
 | .BK e=>ob (X.E ρ e) λv=>pr 12 EV do let i<-toInt v;dK (decide (i.natAbs<10^9)&&nF (pL i)&&decide ((pL i).cps.size<=bW));pure (.d (.str (pL i)))
 | .aAv=>ol do let r<-Ly (.dt []);pure (.ref r)
 | .AR=>aAi N X (.ns [(.vB,.un),(.sB,.un),(.Eo,.un),(.yK,.un)]) .flat .flat op
 | .Lz=>aAi N X (.ns [(.fZ,.un),(.vC,.un),(.gV,.un)]) .KW .func λv=>ob (ol (setAttr v .gV (.d .none))) λY=>op v
 | .zip _ _=>Ov
 | .bad=>Ov
noncomputable def aEg (E:List (Nm×V)->Ex->OM V) (t:Tg) (v:V) (ρ:List (Nm×V)):OM (List (Nm×V)):=match t with
 | .n x=>op (mT x v ρ)
 | .t ts=>ol do let x<-toD v;fI (Ul (.t ts) x ρ)
 | .a o x=>ob (E ρ o) λov=>ob (pr 13 EU (setAttr ov x v)) λY=>op ρ
 | .s o i=>ob (E ρ o) λov=>ob (E ρ i) λiv=>ob (pr 14 EU (setItem ov iv v)) λY=>op ρ
noncomputable def OW (E:List (Nm×V)->Ex->OM V) (ts:List Tg) (vs:List V) (ρ:List (Nm×V)):OM (List (Nm×V)):=match ts with
 | []=>ob (ol (dK vs.isEmpty)) λY=>op ρ
 | t::ts=>match vs with
  | []=>Ov
  | v::vs=>ob (aEg E t v ρ) λρ'=>OW E ts vs ρ'
noncomputable def oX (N:Nat) (X:Tv) (ρ:List (Nm×V)) (e:Ex):OM V:=ch 30 N EV (λk=>(ev k).E ρ e) (X.E ρ e)
noncomputable def oS (N:Nat) (X:Tv) (s:Sx) (ρ:List (Nm×V)):OM (Fl×List (Nm×V)):=match s with
 | .ex e=>ob (X.E ρ e) λv=>ol do let x<-toD v;dK (aBp x);pure (.next,ρ)
 | .asg t e=>ob (oX N X ρ e) λv=>ob (aEg X.E t v ρ) λρ'=>op (.next,ρ')
 | .qX ts es=>ob (oL (X.E ρ) es) λvs=>ob (OW X.E ts vs ρ) λρ'=>op (.next,ρ')
 | .gR c a b=>ob (oX N X ρ c) λv=>ob (oT v) λt=>oi t (X.B a ρ) (X.B b ρ)
 | .for t it body=>ob (aNa (X.E ρ) it) λp=>ob (ch 21 N EF (λk=>forL (ev k).B t body p.1 ρ) (oF X.B t body p.1 ρ)) λr=>ob (pr 16 EU (Og p.2)) λY=>op r
 | .aAg c body=>ch 22 N EF (λk=>Wc (ev k).E (ev k).B c body (10^30) ρ) Ov
 | .ret o=>match o with
  | none=>op (.ret (.d .none),ρ)
  | some e=>ob (oX N X ρ e) λv=>op (.ret v,ρ)
 | .bad=>Ov
noncomputable def oB (N:Nat) (X:Tv) (l:List Sx) (ρ:List (Nm×V)):OM (Fl×List (Nm×V)):=match l with
 | []=>op (.next,ρ)
 | s::r=>ob (oS N X s ρ) λp=>match p.1 with
  | .next=>oB N X r p.2
  | .ret v=>op (.ret v,p.2)
noncomputable def aOc (X:Tv) (c:Option Cl) (f:Nm) (vs:List V):OM V:=λes st=>WC (fnOf c f) λp=>bif Bd p.1.length vs.length then WC (X.B p.2.2 (p.1.zip vs++p.2.1.map λx=>(x,V.un)) es st) λr=>some (r.1,VM r.2.1.1,r.2.2) else none
noncomputable def oC (X:Tv) (c:Option Cl) (f:Nm) (vs:List V):OM V:=λes st=>WC (aOc X c f vs es st) λr=>some (r.1,r.2.1,r.2.2.1,left f st.objs.length r.2.2.2)
noncomputable def CB (X:Dg) (c:Option Cl) (f:Nm) (vs:List V):M V:=λst=>WC (fnOf c f) λp=>if p.1.length=vs.length then (X.B p.2.2 (p.1.zip vs++p.2.1.map λx=>(x,V.un)) st).map λq=>(VM q.1.1,q.2) else none
theorem Ql (X:Dg) (c:Option Cl) (f:Nm) (vs:List V) (st:St):Jn X c f vs st=(CB X c f vs st).map λq=>(q.1,left f st.objs.length q.2):=by
 unfold Jn CB
 cases fnOf c f with
 | none=>rfl
 | some p=>
  show ((dK _>>=_:M V) st)=(ite (p.1.length=vs.length) _ _:Option (V×St)).map _
  by_cases h:p.1.length=vs.length
  ·rw [decide_eq_true h,if_pos h,Option.map_map];rfl
  ·rw [decide_eq_false h,if_neg h];rfl
noncomputable def tr:Nat->Tv
 | 0=>⟨λY Y=>Ov,λY Y Y=>Ov,λY Y=>Ov⟩
 | N+1=>⟨aNo N (tr N),oC (tr N),oB N (tr N)⟩
structure aHm (X:Dg) (Y:Tv):Prop where
 E:∀ρ e,Sd (X.E ρ e) (Y.E ρ e)
 C:∀c f vs,Sd (X.C c f vs) (Y.C c f vs)
 B:∀l ρ,Sd (X.B l ρ) (Y.B l ρ)
section
variable {N n:Nat} {X:Tv}
theorem VE (hn:N<=n) (h:aHm (ev n) X) (c:Option Cl) (f:Nm) (vs:List V):Sd ((ev n).C c f vs) (aMx N X c f vs):=Vz (F:=λk=>(ev k).C c f vs) hn (h.C c f vs)
theorem aNw (hn:N<=n) (h:aHm (ev n) X) (ρ:List (Nm×V)) (e:Ex):Sd (hY (ev n) ρ e) (aNo N X ρ e):=by
 have hE:=h.E ρ
 unfold aNo
 cases e with
 | v x=>exact Sd.ol
 | Nq x=>exact Sd.ol
 | none=>exact Sd.op
 | bool b=>exact Sd.op
 | int i=>exact Sd.op
 | str n=>exact Sd.op
 | tup es=>exact Sd.bind (Wr hE es) λY=>Sd.ol
 | lst es=>exact Sd.bind (Wr hE es) λY=>Sd.ol
 | zE es=>exact Sd.bind (Wr hE es) λY=>kK
 | Xg=>exact Sd.ol
 | Wq ks es=>exact Sd.bind (Wr hE es) λY=>Sd.ol
 | bin o a b=>exact Sd.bind (hE a) λY=>Sd.bind (hE b) λY=>kK
 | neg a=>exact Sd.bind (hE a) λY=>Sd.ol
 | not a=>exact Sd.bind (hE a) λY=>Sd.bind kK λY=>Sd.op
 | and es=>
  cases es with
  | nil=>exact Sd.Ov
  | cons e r=>exact NU hE r e
 | or es=>
  cases es with
  | nil=>exact Sd.Ov
  | cons e r=>exact aAm hE r e
 | cmp a r=>exact Sd.bind (hE a) λx=>NR hE r x
 | gR c a b=>exact Sd.bind (hE c) λY=>Sd.bind kK λY=>Sd.ite (hE a) (hE b)
 | sub a i=>exact Sd.bind (hE a) λY=>Sd.bind (hE i) λY=>kK
 | Wo a lo hi=>exact Sd.bind (hE a) λY=>Sd.bind (aJi hE lo) λY=>Sd.bind (aJi hE hi) λY=>kK
 | xN a x=>exact Sd.bind (hE a) λY=>kK
 | call f es=>exact Sd.bind (Wr hE es) λY=>VE hn h _ _ _
 | blt b es=>exact Sd.bind (Wr hE es) λY=>kK
 | met o m es=>
  refine Sd.bind (hE o) λov=>Sd.bind kK λY=>Sd.bind Sd.ol λY=>Sd.bind (Wr hE es) λvs=> ?_
  cases ov with
  | inst c r=>exact VE hn h _ _ _
  | un=>exact Sd.bind kK λY=>Sd.bind Sd.ol λY=>kK
  | d x=>exact Sd.bind kK λY=>Sd.bind Sd.ol λY=>kK
  | ref r=>exact Sd.bind kK λY=>Sd.bind Sd.ol λY=>kK
  | GW a b=>exact Sd.bind kK λY=>Sd.bind Sd.ol λY=>kK
  | sd l=>exact Sd.bind kK λY=>Sd.bind Sd.ol λY=>kK
 | comp e t it ifs=>exact Sd.bind (aAn hE it) λp=>Sd.bind (Vz (F:=λk=>kL (ev k).E ρ e t ifs p.1) hn (aDa h.E p.1)) λY=>Sd.bind kK λY=>Sd.op
 | BK e=>exact Sd.bind (hE e) λY=>kK
 | aAv=>exact Sd.ol
 | AR=>exact Sd.bind Sd.ol λY=>Sd.bind (VE hn h _ _ _) λY=>Sd.bind Sd.ol λY=>Sd.op
 | Lz=>exact Sd.bind Sd.ol λY=>Sd.bind (VE hn h _ _ _) λY=>Sd.bind Sd.ol λY=>Sd.bind Sd.ol λY=>Sd.op
 | zip _ _=>exact Sd.Ov
 | bad=>exact Sd.Ov
theorem NS {F:List (Nm×V)->Ex->M V} {E:List (Nm×V)->Ex->OM V} (h:∀ρ e,Sd (F ρ e) (E ρ e)) (t:Tg) (v:V) (ρ:List (Nm×V)):Sd (On F t v ρ) (aEg E t v ρ):=by
 cases t with
 | n x=>exact Sd.op
 | t ts=>exact Sd.ol
 | a o x=>exact Sd.bind (h ρ o) λY=>Sd.bind kK λY=>Sd.op
 | s o i=>exact Sd.bind (h ρ o) λY=>Sd.bind (h ρ i) λY=>Sd.bind kK λY=>Sd.op
theorem GR {F:List (Nm×V)->Ex->M V} {E:List (Nm×V)->Ex->OM V} (h:∀ρ e,Sd (F ρ e) (E ρ e)):∀ts vs ρ,Sd (Kq F ts vs ρ) (OW E ts vs ρ)
 | [],_=>λρ=>Sd.bind Sd.ol λY=>Sd.op
 | _::_,[]=>λY=>Sd.Ov
 | t::ts,v::vs=>λρ=>Sd.bind (NS h t v ρ) λρ'=>GR h ts vs ρ'
theorem aNv (hn:N<=n) (h:aHm (ev n) X) (s:Sx) (ρ:List (Nm×V)):Sd (zZ (ev n) s ρ) (oS N X s ρ):=by
 have hX:∀e,Sd ((ev n).E ρ e) (oX N X ρ e):=λe=>Vz (F:=λk=>(ev k).E ρ e) hn (h.E ρ e)
 unfold oS
 cases s with
 | ex e=>exact Sd.bind (h.E ρ e) λY=>Sd.ol
 | asg t e=>exact Sd.bind (hX e) λv=>Sd.bind (NS h.E t v ρ) λY=>Sd.op
 | qX ts es=>exact Sd.bind (Wr (h.E ρ) es) λvs=>Sd.bind (GR h.E ts vs ρ) λY=>Sd.op
 | gR c a b=>exact Sd.bind (hX c) λY=>Sd.bind kK λY=>Sd.ite (h.B a ρ) (h.B b ρ)
 | «for» t it body=>exact Sd.bind (aAn (h.E ρ) it) λp=>Sd.bind (Vz (F:=λk=>forL (ev k).B t body p.1 ρ) hn (aJj h.B p.1 ρ)) λY=>Sd.bind kK λY=>Sd.op
 | aAg c body=>exact Vz (F:=λk=>Wc (ev k).E (ev k).B c body (10^30) ρ) hn Sd.Ov
 | ret o=>
  cases o with
  | none=>exact Sd.op
  | some e=>exact Sd.bind (hX e) λY=>Sd.op
 | bad=>exact Sd.Ov
theorem aJk (hn:N<=n) (h:aHm (ev n) X):∀l ρ,Sd (Jo (ev n) l ρ) (oB N X l ρ)
 | []=>λY=>Sd.op
 | s::r=>λρ=>Sd.bind (aNv hn h s ρ) λp=>by
  cases p.1 with
  | next=>exact aJk hn h r p.2
  | ret v=>exact Sd.op
theorem NP (h:aHm (ev n) X) (c:Option Cl) (f:Nm) (vs:List V):Sd (CB (ev n) c f vs) (aOc X c f vs):=λes st r e q=>Ra e λp e1 e=>by
 unfold CB
 rw [e1]
 revert e
 cases hb:Bd p.1.length vs.length with
 | false=>exact λh=>nomatch h
 | true=>
  refine λe=>Ra e λy e2 e=> ?_
  cases e
  show (ite (p.1.length=vs.length) _ _:Option (V×St))=_
  rw [if_pos (sP hb),h.B _ _ _ _ _ e2 q]
  rfl
theorem aJh (h:aHm (ev n) X) (c:Option Cl) (f:Nm) (vs:List V):Sd (Jn (ev n) c f vs) (oC X c f vs):=λes st r e q=>Ra e λy e2 e=>by
 cases e
 rw [Ql,NP h c f vs es st y e2 q]
 rfl
end
theorem GG:∀N n,N<=n->aHm (ev n) (tr N)
 | 0,_,_=>⟨λY Y=>Sd.Ov,λY Y Y=>Sd.Ov,λY Y=>Sd.Ov⟩
 | N+1,n,hn=>by
  cases n with
  | zero=>exact absurd hn (tV _)
  | succ n=>
   have l:=iM hn
   have h:=GG N n l
   exact ⟨aNw l h,aJh h,aJk l h⟩
noncomputable def FB {α:Type} (o:Option (Out α)):Option (List Fn×α×St):=match o with
 | some r=>some (r.1.map bY,r.2.1,r.2.2.2)
 | none=>none
noncomputable def FA {α:Type} (o:Option (Out α)) (v:α) (s:St):Option (List Fn×α×St):=match o with
 | some r=>some (r.1.map fU,v,s)
 | none=>some ([],v,s)
theorem AM {γ:Type}:∀l:List (γ×γ),l.map bY=l.map fU->∀q∈l,q.1=q.2
 | []=>λY Y h=>nomatch h
 | p::l=>λe q h=>(aJ.1 h).elim (λe'=>e'▸(fR e).1) (AM l (fR e).2 q)
theorem EZ {α:Type} {m:M α} {w:OM α} (s:Sd m w) {es:List Ent} {st st':St} {v:α} (h:FB (w es st)=FA (w es st) v st'):m st=some (v,st'):=by
 revert h
 cases e:w es st with
 | none=>exact λh=>nomatch h
 | some r=>
  intro h
  have h:=aF h
  rw [s _ _ _ e (AM _ (congrArg bY h)),<-show r.2.1=v from congrArg (·.2.1) h,<-show r.2.2.2=st' from congrArg (·.2.2) h]
section
variable {n:Nat} {c:Option Cl} {f:Nm} {vs:List V} {st st':St} {v:V} {ρ:List (Nm×V)} {l:List Sx} {p:Fl×List (Nm×V)} {e:Ex}
noncomputable def Run (n:Nat) (c:Option Cl) (f:Nm) (vs:List V) (st:St) (v:V) (st':St):Prop:=∀k,n<=k->(ev k).C c f vs st=some (v,st')
theorem qI (es:List Ent) (h:FB ((tr n).B l ρ es st)=FA ((tr n).B l ρ es st) p st'):∀k,n<=k->(ev k).B l ρ st=some (p,st'):=λk hk=>EZ ((GG n k hk).B l ρ) h
theorem kG (es:List Ent) (h:FB ((tr n).E ρ e es st)=FA ((tr n).E ρ e es st) v st'):∀k,n<=k->(ev k).E ρ e st=some (v,st'):=λk hk=>EZ ((GG n k hk).E ρ e) h
noncomputable def eC (h:Run n c f vs st v st'):Ent:=⟨1,n,λk=>mapA EV.i ((ev k).C c f vs st),.v v,st',λk hk=>congrArg (mapA EV.i) (h k hk)⟩
noncomputable def eP (t:Nat) {o:Option (V×St)} (h:o=some (v,st')):Ent:=⟨t,0,λY=>mapA EV.i o,.v v,st',λY Y=>congrArg (mapA EV.i) h⟩
noncomputable def eE (h:∀k,n<=k->(ev k).E ρ e st=some (v,st')):Ent:=⟨30,n,λk=>mapA EV.i ((ev k).E ρ e st),.v v,st',λk hk=>congrArg (mapA EV.i) (h k hk)⟩
noncomputable def eT (st:St) {a b:Bool} (h:a=b):Ent:=⟨10,0,λY=>some (.b a,st),.b b,st,λY Y=>h▸rfl⟩
noncomputable def eQ (st:St) {a b:Bool} (h:a=b):Ent:=⟨3,0,λY=>some (.v (.d (.bool a)),st),.v (.d (.bool b)),st,λY Y=>h▸rfl⟩
noncomputable def eX (t:Nat):Ent:=⟨t+100,0,λY=>some (.u,⟨[],0⟩),.u,⟨[],0⟩,λY Y=>rfl⟩
noncomputable def eU (t:Nat) {o:Option (Unit×St)} (h:o=some ((),st')):Ent:=⟨t,0,λY=>mapA EU.i o,.u,st',λY Y=>congrArg (mapA EU.i) h⟩
noncomputable def eN {k:Nat} {o:Option (Nat×St)} (h:o=some (k,st')):Ent:=⟨15,0,λY=>mapA EN.i o,.n k,st',λY Y=>congrArg (mapA EN.i) h⟩
noncomputable def eI {o:Option ((List aE×Option Nat)×St)} {p:List aE×Option Nat} (h:o=some (p,st')):Ent:=⟨11,0,λY=>mapA EI.i o,.it p,st',λY Y=>congrArg (mapA EI.i) h⟩
noncomputable def eK {t:Tg} {ifs:List Ex} {xs ys:List aE} (h:∀k,n<=k->kL (ev k).E ρ e t ifs xs st=some (ys,st')):Ent:=⟨20,n,λk=>mapA ED.i (kL (ev k).E ρ e t ifs xs st),.ds ys,st',λk hk=>congrArg (mapA ED.i) (h k hk)⟩
noncomputable def eF {t:Tg} {xs:List aE} (h:∀k,n<=k->forL (ev k).B t l xs ρ st=some (p,st')):Ent:=⟨21,n,λk=>mapA EF.i (forL (ev k).B t l xs ρ st),.fl p,st',λk hk=>congrArg (mapA EF.i) (h k hk)⟩
noncomputable def eW (h:∀k,n<=k->Wc (ev k).E (ev k).B e l (10^30) ρ st=some (p,st')):Ent:=⟨22,n,λk=>mapA EF.i (Wc (ev k).E (ev k).B e l (10^30) ρ st),.fl p,st',λk hk=>congrArg (mapA EF.i) (h k hk)⟩
end
noncomputable def iv (i:Int):V:= .d (.int i)
noncomputable def bv (b:Bool):V:= .d (.bool b)
section
variable {α:Type} {n:Nat} {f:Nm} {vs:List V} {st st':St} {v:V} {ρ:List (Nm×V)} {t:Tg} {e i:Ex}
noncomputable def oD (n:Nat) (c:Option Cl) (f:Nm) (vs:List V):OM V:=λes st=>bif decide (f= .kC) then none else aOc (tr n) c f vs es st
theorem Run.put {c:Option Cl} {B:List (Nat×O)} (hB:st'.objs.take st.objs.length=B) (es:List Ent) (h:FB (oD n c f vs es st)=FA (oD n c f vs es st) v st'):Run (n+1) c f vs st v ⟨B,st'.next⟩:=λk hk=>by
 cases k with
 | zero=>exact absurd hk (tV _)
 | succ k=>
  unfold oD at h
  revert h
  cases hf:decide (f= .kC) with
  | true=>exact λh=>nomatch h
  | false=>
   intro h
   show Jn (ev k) c f vs st=_
   rw [Ql,EZ (NP (GG n k (iM hk)) c f vs) h]
   show some (v,Mine.left f st.objs.length _)=_
   unfold Mine.left
   rw [if_neg (of_decide_eq_false hf),hB]
theorem Run.cut {c:Option Cl} {A B:List (Nat×O)} {m:Nat} (hB:B.length=st.objs.length) (es:List Ent) (h:FB (oD n c f vs es st)=FA (oD n c f vs es st) v ⟨B++A,m⟩):Run (n+1) c f vs st v ⟨B,m⟩:=Run.put (st':=⟨B++A,m⟩) (by rw [<-hB];exact Pz) es h
theorem Run.same {c:Option Cl} (hB:st'.objs.length=st.objs.length) (es:List Ent) (h:FB (oD n c f vs es st)=FA (oD n c f vs es st) v st'):Run (n+1) c f vs st v st':=Run.put (by rw [<-hB];exact Lc) es h
noncomputable def gS (n:Nat) (f:Nm) (vs:List V) (v:V):Prop:=∀st,Run n none f vs st v st
theorem gS.of (es:St->List Ent) (h:∀st,FB (oD n none f vs (es st) st)=FA (oD n none f vs (es st) st) v st):gS (n+1) f vs v:=λst=>Run.same rfl (es st) (h st)
theorem Ct {F d:α->aE} (xs:List α) (hb:∀p,p∈xs->∃b,sK t (F p)=some b/\∀k,n<=k->(ev k).E (b++ρ) e st=some (.d (d p),st)):∀k,n<=k->kL (ev k).E ρ e t [] (xs.map F) st=some (xs.map d,st):=λk hk=>by
 induction xs with
 | nil=>rfl
 | cons p xs ih=>exact (hb p (cF ..)).elim λb q=>aY (a:=b) (by rw [q.1];rfl) (aY (a:=true) rfl (aY (q.2 k hk) (aY (a:=d p) rfl (aY (ih λp h=>hb p (cX _ h)) rfl))))
theorem Gz {F d:α->aE} {c:α->Bool} (xs:List α) (hb:∀p,p∈xs->∃b,sK t (F p)=some b/\∀k,n<=k->(ev k).E (b++ρ) i st=some (bv (c p),st)/\(ev k).E (b++ρ) e st=some (.d (d p),st)):∀k,n<=k->kL (ev k).E ρ e t [i] (xs.map F) st=some ((xs.filter c).map d,st):=λk hk=>by
 induction xs with
 | nil=>rfl
 | cons p xs ih=>
  have j:=ih λp h=>hb p (cX _ h)
  refine (hb p (cF ..)).elim λb q=>aY (a:=b) (by rw [q.1];rfl) (aY (a:=c p) (aY (q.2 k hk).1 (aY (a:=c p) rfl (by cases c p<;>rfl))) ?_)
  rw [kX]
  cases c p with
  | true=>exact aY (q.2 k hk).2 (aY (a:=d p) rfl (aY j rfl))
  | false=>exact j
end
abbrev mY:=List (Int×Int)
noncomputable def jL (p:Int×Int):aE:= .tuple [.int p.1,.int p.2]
noncomputable def eJ (D:mY):aE:= .tuple (D.map jL)
theorem rZ {a b:Int} (h:a<=b):gS 9 .nL [iv a,iv b] (.d (eJ [(a,b)])):=gS.of (λst=>[eT st (decide_eq_true h)]) λst=>by kernel_rfl
theorem IZ {x:aE} {l:List aE}:atIdx (x::l) 0=some x:=by
 unfold atIdx Kg
 rw [if_pos ⟨aW 0,fL.2 (jN l.length)⟩];rfl
theorem ZP {x:aE} {l:List aE}:atIdx (l++[x]) (-1)=some x:=by
 unfold atIdx Kg
 rw [if_neg (λh=>absurd h.1 (by decide)),aN,if_pos ⟨by decide,cZ.2 (fN 1 l.length)⟩]
 show (l++[x])[(-1+((l.length:Int)+1)).toNat]? =_
 rw [gL,fT]
 exact vQ
theorem item_tup {x:aE} {l:List aE} {i:Int} {st:St} (h:atIdx l i=some x):itemOf (.d (.tuple l)) (iv i) st=some (.d x,st):=aY (a:=i) rfl (aY (by rw [h];rfl) rfl)
noncomputable def lo (D:mY):Int:=match D with
 | p::_=>p.1
 | []=>0
noncomputable def hi (D:mY):Int:=match D with
 | []=>0
 | p::D=>match D with
  | []=>p.2
  | _::_=>hi D
theorem KE (p:Int×Int) (D:mY):gS 9 .Bq [.d (eJ (p::D))] (iv (lo (p::D))):=gS.of (λst=>[eP 4 (st':=st) (item_tup (IZ (x:=jL p) (l:=D.map jL))),eX 4]) λst=>by kernel_rfl
theorem Yb:∀ (D:mY) (p:Int×Int),∃C q,p::D=C++[q]/\hi (p::D)=q.2
 | []=>λp=>⟨[],p,rfl,rfl⟩
 | q::D=>λp=>(Yb D q).elim λC h=>h.elim λr h=>⟨p::C,r,congrArg (p:: ·) h.1,h.2⟩
theorem Wu (p:Int×Int) (D:mY):gS 9 .wZ [.d (eJ (p::D))] (iv (hi (p::D))):=(Yb D p).elim λC h=>h.elim λq h=>by
 rw [h.2]
 exact gS.of (λst=>[eP 4 (st':=st) (item_tup (x:=jL q) (l:=(p::D).map jL) (i:= -1) (by rw [h.1,cS];exact ZP)),eX 4]) λst=>by kernel_rfl
section
variable {r:Nat} {xs ys:List aE} {x y:aE} {i:Int} {j:Nat} {st:St} {L:List (Nat×O)} {o:O} {n m:Nat} {f:Nm} {vs:List V} {b:List (Nm×V)} {ρ ρ':List (Nm×V)} {v:V} {t:Tg} {body:List Sx} {st':St} {p:(Fl×List (Nm×V))×St}
noncomputable def At (st:St) (r:Nat) (o:O):Prop:=mC st.objs r=some o
noncomputable def Um (st:St) (r:Nat) (o:O) (L:List (Nat×O)):Prop:=lY st.objs r o=L
noncomputable def Fs (n:Nat) (L:List (Nat×O)):Prop:=∀q,q∈L->q.1<n
theorem mJ {M:List (Nat×O)}:∀L:List (Nat×O),Fs r L->mC (L++(r,o)::M) r=some o/\∀o',lY (L++(r,o)::M) r o'=L++(r,o')::M
 | []=>λY=>⟨if_pos rfl,λY=>if_pos rfl⟩
 | q::L=>λh=>by
  have i:=mJ (M:=M) L λp hp=>h p (cX _ hp)
  have e:q.1≠r:=fX (h q (cF ..))
  exact ⟨(if_neg e).trans i.1,λo'=>(if_neg e).trans (congrArg (q:: ·) (i.2 o'))⟩
theorem At.top (h:Fs r L):At ⟨L++[(r,o)],m⟩ r o:=(mJ L h).1
theorem Um.top {o':O} (h:Fs r L):Um ⟨L++[(r,o)],m⟩ r o' (L++[(r,o')]):=(mJ L h).2 o'
theorem At.get (h:At st r o):EL r st=some (o,st):=by unfold EL;rw [show mC st.objs r=some o from h];rfl
theorem zG (h:At st r (.list xs)):builtin .len [.ref r] st=some (iv xs.length,st):=aY (aY h.get rfl) rfl
theorem Pl (h:At st r (.list xs)) (e:atIdx xs i=some x):itemOf (.ref r) (iv i) st=some (.d x,st):=aY (a:= .int i) rfl (aY h.get (aY (a:=i) rfl (aY (a:=x) (by rw [e];rfl) rfl)))
theorem kS {k:Nat} (h:At st r o) (e:Va o=some k):kindOf (.ref r) st=some (k,st):=aY h.get (by rw [e];rfl)
theorem pR (h:At st r (.list xs)) (e:xs.length<bW) (q:Um st r (.list (xs++[x])) L):method (.ref r) .iI [.d x] st=some (.d .none,⟨L,st.next⟩):=aY (a:= .d x) rfl (aY (a:=x) rfl (aY (aY h.get rfl) (aY (a:=()) (by rw [decide_eq_true e];rfl) (aY (a:=()) (congrArg (λl=>some ((),St.mk l st.next)) q) rfl))))
theorem aGw (h:At st r (.list xs)) (e:Kg xs.length i=some j) (q:Um st r (.list (xs.set j y)) L):setItem (.ref r) (iv i) (.d y) st=some ((),⟨L,st.next⟩):=aY (a:=r) rfl (aY (a:= .int i) rfl (aY h.get (aY (a:=y) rfl (aY (a:=i) rfl (aY (a:=j) (by rw [e];rfl) (congrArg (λl=>some ((),St.mk l st.next)) q))))))
theorem Pk (h:At st r (.list xs)) (q:Um st r (.sJ xs) L):Et (.ref r) st=some ((xs,some r),⟨L,st.next⟩):=aY (aY h.get rfl) (aY (a:=()) (congrArg (λl=>some ((),St.mk l st.next)) q) rfl)
theorem Pj (h:At st r (.sJ xs)) (q:Um st r (.list xs) L):Og (some r) st=some ((),⟨L,st.next⟩):=aY (aY h.get rfl) (congrArg (λl=>some ((),St.mk l st.next)) q)
theorem qU {x:aE} {xs:List aE} (hb:sK t x=some b) (h:∀k,n<=k->(ev k).B body (mL b ρ) st=some ((.next,ρ'),st')) (h2:∀k,n<=k->forL (ev k).B t body xs ρ' st'=some p):∀k,n<=k->forL (ev k).B t body (x::xs) ρ st=some p:=λk hk=>aY (a:=b) (by rw [hb];rfl) (aY (h k hk) (h2 k hk))
theorem aBg {x:aE} {xs:List aE} (hb:sK t x=some b) (h:∀k,n<=k->(ev k).B body (mL b ρ) st=some ((.ret v,ρ'),st')):∀k,n<=k->forL (ev k).B t body (x::xs) ρ st=some ((.ret v,ρ'),st'):=λk hk=>aY (a:=b) (by rw [hb];rfl) (aY (h k hk) rfl)
end
noncomputable def Gx:mY->Int->Option Int
 | [],_=>none
 | p::r,v=>bif decide (v<=p.2) then some (max p.1 v) else Gx r v
noncomputable def aAu (o:Option Int):Fl:=match o with
 | none=> .next
 | some i=> .ret (iv i)
theorem Vc (x:V) (v:Int) (st:St):∀ (D:mY) (l h:V),∃ρ',∀k,7<=k->forL (ev k).B (.t [.n .dY,.n .cT]) [.gR (.cmp (.v .Bo) [(.le,.v .cT)]) [.ret (some (.blt .max [.v .dY,.v .Bo]))] []] (D.map jL) [(.Vf,x),(.Bo,iv v),(.dY,l),(.cT,h)] st=some ((aAu (Gx D v),ρ'),st)
 | [],l,h=>⟨_,λk hk=>rfl⟩
 | p::r,l,h=>by
  show ∃ρ',∀k,7<=k->_=some ((aAu (bif decide (v<=p.2) then some (max p.1 v) else Gx r v),ρ'),st)
  cases e:decide (v<=p.2) with
  | true=>exact ⟨[(.Vf,x),(.Bo,iv v),(.dY,iv p.1),(.cT,iv p.2)],aBg rfl (qI [eT st e] (by kernel_rfl))⟩
  | false=>exact (Vc x v st r (iv p.1) (iv p.2)).elim λρ' j=>⟨ρ',qU (ρ':=[(.Vf,x),(.Bo,iv v),(.dY,iv p.1),(.cT,iv p.2)]) rfl (qI [eT st e] (by kernel_rfl)) j⟩
noncomputable def aEb (o:Option Int):aE:=match o with
 | none=> .none
 | some i=> .int i
theorem Tw (D:mY) (v:Int):gS 10 .Ek [.d (eJ D),iv v] (.d (aEb (Gx D v))):=λst=>(Vc (.d (eJ D)) v st D .un .un).elim λρ' h=>by
 revert h
 cases Gx D v with
 | none=>exact λh=>Run.same rfl [eF h] (by kernel_rfl)
 | some i=>exact λh=>Run.same rfl [eF h] (by kernel_rfl)
theorem VI (D:mY) (v:Int):gS 14 .HO [.d (eJ D),iv v] (bv (dC (aEb (Gx D v)) (.int v))):=λst=>by
 have h:=Tw D v st
 revert h
 cases Gx D v<;>exact λh=>Run.same rfl [eC h] (by kernel_rfl)
noncomputable def upTo (D:mY) (k:Int):mY:=(D.filter λp=>decide (p.1<=k)).map λp=>(p.1,min p.2 k)
noncomputable def xJ (D:mY) (k:Int):mY:=(D.filter λp=>decide (k<=p.2)).map λp=>(max p.1 k,p.2)
theorem KC (D:mY) (k:Int):gS 12 .Xi [.d (eJ D),iv k] (.d (eJ (upTo D k))):=λst=>by
 have h:=Gz (st:=st) (n:=6) (ρ:=[(.Vf,.d (eJ D)),(.Zi,iv k)]) (t:= .t [.n .dY,.n .cT]) (e:= .tup [.v .dY,.blt .min [.v .cT,.v .Zi]]) (i:= .cmp (.v .dY) [(.le,.v .Zi)]) (F:=jL) (d:=λp=>jL (p.1,min p.2 k)) (c:=λp=>decide (p.1<=k)) D λp Y=>⟨_,rfl,λn hn=>⟨kG [] (by kernel_rfl) n hn,kG [] (by kernel_rfl) n hn⟩⟩
 unfold upTo eJ
 rw [dM]
 exact Run.same rfl [eK h] (by kernel_rfl)
theorem AF (D:mY) (k:Int):gS 12 .Mf [.d (eJ D),iv k] (.d (eJ (xJ D k))):=λst=>by
 have h:=Gz (st:=st) (n:=6) (ρ:=[(.Vf,.d (eJ D)),(.Zi,iv k)]) (t:= .t [.n .dY,.n .cT]) (e:= .tup [.blt .max [.v .dY,.v .Zi],.v .cT]) (i:= .cmp (.v .cT) [(.ge,.v .Zi)]) (F:=jL) (d:=λp=>jL (max p.1 k,p.2)) (c:=λp=>decide (k<=p.2)) D λp Y=>⟨_,rfl,λn hn=>⟨kG [] (by kernel_rfl) n hn,kG [] (by kernel_rfl) n hn⟩⟩
 unfold xJ eJ
 rw [dM]
 exact Run.same rfl [eK h] (by kernel_rfl)
noncomputable def zX (D:mY) (v:Int):mY:=upTo D (v - 1)++xJ D (v+1)
theorem Pg (xs ys:List aE) (st:St) (h:xs.length+ys.length<=bW):binOp .add (.d (.tuple xs)) (.d (.tuple ys)) st=some (.d (.tuple (xs++ys)),st):=aY (a:=ys) rfl (aY (a:=()) (by show dK _ st=_;rw [decide_eq_true h];rfl) rfl)
theorem AB (D:mY) (v:Int) (h:D.length+D.length<=bW):gS 17 .Fj [.d (eJ D),iv v] (.d (eJ (zX D v))):=by
 have e:=Pg ((upTo D (v - 1)).map jL) ((xJ D (v+1)).map jL)
 rw [<-cS,aI,aI,upTo,xJ,aI,aI] at e
 exact gS.of (λst=>[eC (KC D (v - 1) st),eC (AF D (v+1) st),eP 2 (e st (aB (iO (iZ _ _) (iZ _ _)) h))]) λst=>by kernel_rfl
inductive Tr where
 | b (v:Bool)
 | bit (x:Int) (u:Bool)
structure Sm where
 parts:List (Int×Int)
 c:Int
inductive Vl where
 | n (i:Int)
 | s (t:Sm)
 | t (t:Tr)
noncomputable def Tr.enc (t:Tr):aE:=match t with
 | .b v=> .bool v
 | .bit x u=> .tuple [.str Nm.oP.str,.int x,.bool u]
noncomputable def Sm.enc (t:Sm):aE:= .tuple [.str Nm.Eh.str,eJ t.parts,.int t.c]
noncomputable def Vl.enc (v:Vl):aE:=match v with
 | .n i=> .int i
 | .s q=>q.enc
 | .t q=>q.enc
noncomputable def b2i (b:Bool):Int:=if b then 1 else 0
noncomputable def Vl.sm (v:Vl):Sm:=match v with
 | .n i=>⟨[],i⟩
 | .s q=>q
 | .t (.b v)=>⟨[],b2i v⟩
 | .t (.bit x u)=>bif u then ⟨[(x,1)],0⟩ else ⟨[(x,-1)],1⟩
noncomputable def Tr.no (t:Tr):Tr:=match t with
 | .b v=> .b !v
 | .bit x u=> .bit x !u
noncomputable def Vl.sH (v:Vl):Bool:=match v with
 | .s _=>true
 | _=>false
noncomputable def Vl.sI (v:Vl):Bool:=match v with
 | .t (.bit _ _)=>true
 | _=>false
noncomputable def Vl.Pc (v:Vl):Bool:=match v with
 | .t _=>true
 | _=>false
section
variable {st:St}
theorem Cn (v:Vl):gS 10 .rC [.d v.enc,.d (.str Nm.Eh.str)] (bv v.sH):=gS.of (λY=>[]) λst=>by rcases v with i | t | b | ⟨x,u⟩<;>kernel_rfl
theorem vA (v:Vl):gS 10 .rC [.d v.enc,.d (.str Nm.oP.str)] (bv v.sI):=gS.of (λY=>[]) λst=>by rcases v with i | t | b | ⟨x,u⟩<;>kernel_rfl
theorem fY (t:Tr):gS 10 .eL [.d t.enc] (.d t.no.enc):=gS.of (λY=>[]) λst=>by cases t<;>kernel_rfl
theorem Wt (v:Vl):gS 10 .Ia [.d v.enc] (bv false):=gS.of (λY=>[]) λst=>by rcases v with i | t | b | ⟨x,u⟩<;>kernel_rfl
theorem vX (v:Vl):gS 14 .wY [.d v.enc] (bv v.Pc):=λst=>by
 have h:=vA v st
 revert h
 rcases v with i | t | b | ⟨x,u⟩<;>first | exact λh=>Run.same rfl [eC h] (by kernel_rfl) | exact λh=>Run.same rfl [] (by kernel_rfl)
theorem gQ (v:Vl):gS 14 .lG [.d v.enc] (.d v.sm.enc):=λst=>by
 have h:=Cn v st
 have h':=vA v st
 revert h h'
 rcases v with i | t | b | ⟨x,u⟩
 ·exact λh h'=>Run.same rfl [eC h,eC h'] (by kernel_rfl)
 ·exact λh h'=>Run.same rfl [eC h] (by kernel_rfl)
 ·exact λh h'=>Run.same rfl [eC h,eC h'] (by kernel_rfl)
 ·cases u<;>exact λh h'=>Run.same rfl [eC h,eC h'] (by kernel_rfl)
theorem nK (v:Vl):gS 17 .pI [.d v.enc] (bv (!v.sH&& !v.sI)):=λst=>by
 have g:=Wt v st
 have h:=Cn v st
 have h':=vA v st
 revert g h h'
 rcases v with i | t | b | ⟨x,u⟩
 ·exact λg h h'=>Run.same rfl [eC g,eC h,eC h'] (by kernel_rfl)
 ·exact λg h h'=>Run.same rfl [eC g,eC h] (by kernel_rfl)
 ·exact λg h h'=>Run.same rfl [eC g,eC h,eC h'] (by kernel_rfl)
 ·exact λg h h'=>Run.same rfl [eC g,eC h,eC h'] (by kernel_rfl)
end
noncomputable def ab (i:Int):Int:=if i<0 then -i else i
theorem gI (a:Int):ab a=(a.natAbs:Int):=by
 cases a with
 | ofNat n=>exact if_neg (dD.2 (dL n))
 | negSucc n=>exact if_pos (Int.negSucc_lt_zero n)
noncomputable def zI (i:Int):Prop:=ab i<=1000000000
theorem zI.fits {i:Int} (h:zI i):decide (ab i>=10^1000)=false:=decide_eq_false λq=>absurd (aD q h) (by decide+kernel)
theorem zI.small {i:Int} (h:zI i):Mine.small i=true:=decide_eq_true (aX (cZ.1 (Eq.subst (motive:=λx:Int=>x<=(1000000000:Nat)) (gI i) h)) (by decide))
theorem qR {i:Int} (h:zI i):gS 14 .gE [iv i] (iv i):=gS.of (λst=>[eT st h.fits]) λst=>by kernel_rfl
theorem vD {a b:Int} {st:St} (h:(small a||small b)=true):binOp .mul (iv a) (iv b) st=some (iv (a*b),st):=by
 show (dK (small a||small b)>>=λY=>(pure (iv (a*b)):M V)) st=_
 rw [h]
 rfl
theorem Fw {a b:Int} {st:St} (h:(decide (b≠0)&&small b)=true):binOp .fdiv (iv a) (iv b) st=some (iv (a.fdiv b),st):=by
 show (dK (decide (b≠0)&&small b)>>=λY=>(pure (iv (a.fdiv b)):M V)) st=_
 rw [h]
 rfl
theorem Xo {a b:Int} {st:St} (h:decide (b≠0)=true):binOp .mod (iv a) (iv b) st=some (iv (a.fmod b),st):=by
 show (dK (decide (b≠0))>>=λY=>(pure (iv (a.fmod b)):M V)) st=_
 rw [h]
 rfl
noncomputable def aAr (a b:Int):Int:=bif decide (a<0)==decide (b<0) then (ab a).fdiv (ab b) else -(ab a).fdiv (ab b)
theorem aMi {b:Int} (h:b≠0):ab b≠0:=λe=>h (wR.1 (yZ ((gI b).symm.trans e)))
theorem aMj (b:Int):ab (ab b)=ab b:=(gI (ab b)).trans ((congrArg (λx:Int=>(x.natAbs:Int)) (gI b)).trans (gI b).symm)
theorem Ju {a b:Int} {x:V} (h:zI b) (hb:b≠0):gS 11 .nM [iv a,iv b,x] (iv (aAr a b)):=by
 have g:(decide (ab b≠0)&&small (ab b))=true:=by rw [decide_eq_true (aMi hb),zI.small (by unfold zI;rw [aMj];exact h)];rfl
 unfold aAr
 cases e:decide (a<0)==decide (b<0) with
 | true=>exact gS.of (λst=>[eT st (decide_eq_false hb),eP 2 (st':=st) (Fw (a:=ab a) g),eT st e]) λst=>by kernel_rfl
 | false=>exact gS.of (λst=>[eT st (decide_eq_false hb),eP 2 (st':=st) (Fw (a:=ab a) g),eT st e]) λst=>by kernel_rfl
theorem Lu {a b z:Int} (h:zI b) (hb:b≠0):gS 20 .wX [.d (.str Nm.xB.str),iv a,iv b,iv z] (iv (aAr a b)):=gS.of (λst=>[eC (Ju (a:=a) (x:=iv z) h hb st)]) λst=>by kernel_rfl
theorem Ls {a b z:Int} (h:zI b) (hb:b≠0):gS 20 .wX [.d (.str Nm.Ai.str),iv a,iv b,iv z] (iv (a - b*aAr a b)):=gS.of (λst=>[eC (Ju (a:=a) (x:=iv z) h hb st),eP 2 (st':=st) (vD (a:=b) (b:=aAr a b) (by rw [h.small];rfl))]) λst=>by kernel_rfl
noncomputable def S (g:Int->Int->Int):List (Int×Int)->Int
 | []=>0
 | p::r=>g p.1 p.2+S g r
noncomputable def T (h:Int->Int):List Int->Int
 | []=>0
 | x::r=>h x+T h r
abbrev keys (l:List (Int×Int)):List Int:=l.map bY
noncomputable def zH:List (Int×Int)->Int->Int->List (Int×Int)
 | [],x,d=>[(x,d)]
 | p::r,x,d=>bif p.1==x then (p.1,p.2+d)::r else p::zH r x d
noncomputable def nQ:List (Int×Int)->Int->Int
 | [],_=>0
 | p::r,x=>bif p.1==x then p.2 else nQ r x
noncomputable def dV (p:Int×Int):Int×V:=(p.1,iv p.2)
section
variable {l:List (Int×Int)} {x d y:Int} {g:Int->Int->Int}
theorem xP {p:Int×Int} {r:List (Int×Int)}:zH (p::r) x d=bif p.1==x then (p.1,p.2+d)::r else p::zH r x d:=rfl
theorem Ml {p:Int×Int} {r:List (Int×Int)}:nQ (p::r) x=bif p.1==x then p.2 else nQ r x:=rfl
theorem xM {a b:Int} (h:a≠b):(a==b)=false:=beq_eq_false_iff_ne.2 h
theorem wA {C:Prop} (p:Int×Int) (x:Int) (h1:p.1=x->(p.1==x)=true->C) (h2:p.1≠x->(p.1==x)=false->C):C:=by
 by_cases e:p.1=x
 ·exact h1 e (beq_iff_eq.2 e)
 ·exact h2 e (xM e)
theorem Yl (p:Int×Int) (r:List (Int×V)) (x:Int):fF (dV p::r) x=bif p.1==x then some (iv p.2) else fF r x:=by
 unfold fF
 rw [eB,show ((dV p).1==x)=(p.1==x) from rfl]
 cases p.1==x<;>rfl
theorem Pe:∀l:List (Int×Int),x∈keys l->fF (l.map dV) x=some (iv (nQ l x))
 | []=>λh=>nomatch h
 | p::r=>λh=>wA p x (λY b=>by rw [Ml,dX,Yl,b];rfl) λn b=>by
  rw [Ml,dX,Yl,b]
  exact Pe r ((aJ.1 h).resolve_left λe=>n e.symm)
theorem Al (d:Int):∀l:List (Int×Int),x∉keys l->fF (l.map dV) x=none/\nQ l x=0/\zH l x d=l++[(x,d)]
 | []=>λY=>⟨rfl,rfl,rfl⟩
 | p::r=>λh=>wA p x (λe Y=>absurd (e▸cF ..) h) λn b=>by
  have i:=Al d r λq=>h (cX _ q)
  rw [Ml,xP]
  rw [dX,Yl,b]
  exact ⟨i.1,i.2.1,congrArg (p:: ·) i.2.2⟩
theorem HP {w:V}:∀l:List (Int×Int),x∉keys l->((l.map dV).map λp=>if p.1==x then (p.1,w) else p)=l.map dV
 | []=>λY=>rfl
 | p::r=>λh=>by
  rw [dX,dX,HP r λq=>h (cX _ q),show ((dV p).1==x)=false from xM λe=>h (e▸cF ..)]
  rfl
theorem PI:∀l:List (Int×Int),x∈keys l->(keys l).Nodup->((l.map dV).map λp=>if p.1==x then (p.1,iv (nQ l x+d)) else p)=(zH l x d).map dV
 | []=>λh Y=>nomatch h
 | p::r=>λh nd=>by
  have nd:=bV.1 nd
  refine wA p x (λe b=> ?_) λn b=> ?_
  ·rw [Ml,xP]
   rw [dX,dX,HP r (e▸nd.1),b,show ((dV p).1==x)=true from b]
   rfl
  ·have i:=PI r ((aJ.1 h).resolve_left λe=>n e.symm) nd.2
   rw [Ml,xP]
   rw [b,dX,dX,show ((dV p).1==x)=false from b]
   exact congrArg (dV p:: ·) i
theorem VS (nd:(keys l).Nodup):Nr (l.map dV) x (iv (nQ l x+d))=(zH l x d).map dV:=by
 unfold Nr
 by_cases h:x∈keys l
 ·rw [Pe l h,<-PI l h nd];rfl
 ·rw [(Al d l h).1,(Al d l h).2.1,(Al d l h).2.2,cS,fD];rfl
theorem XV (l:List (Int×Int)) (x:Int):(fF (l.map dV) x).getD (iv 0)=iv (nQ l x):=by
 by_cases h:x∈keys l
 ·rw [Pe l h];rfl
 ·rw [(Al 0 l h).1,(Al 0 l h).2.1];rfl
theorem TQ (h:∀x a b,g x (a+b)<=g x a+g x b):∀l,S g (zH l x d)<=S g l+g x d
 | []=>by show g x d+0<=0+g x d;rw [gL];exact aW _
 | p::r=>wA p x (λe b=>by
   rw [xP,b]
   show g p.1 (p.2+d)+S g r<=g p.1 p.2+S g r+g x d
   rw [Hl,<-e]
   exact bQ (h _ _ _) _) λn b=>by
   rw [xP,b]
   show g p.1 p.2+S g (zH r x d)<=g p.1 p.2+S g r+g x d
   rw [fT]
   exact fM (TQ h r) _
theorem Rx:∀l,y∈keys (zH l x d)->y∈keys l\/y=x
 | []=>λh=> .inr (aC.1 h)
 | p::r=>λh=>wA p x (λe b=>by rw [xP,b] at h;exact .inl h) λn b=>by
  rw [xP,b] at h
  exact (aJ.1 h).elim (λe=> .inl (e▸cF ..)) λh=>(Rx r h).imp_left λh=>cX _ h
theorem Lx:∀l,(keys l).Nodup->(keys (zH l x d)).Nodup
 | []=>λY=>fP ..
 | p::r=>λnd=>wA p x (λe b=>by rw [xP,b];exact nd) λn b=>by
  rw [xP,b]
  have nd:=bV.1 nd
  exact bV.2 ⟨λh=>(Rx r h).elim nd.1 n,Lx r nd.2⟩
theorem Xs:∀l,(zH l x d).length<=l.length+1
 | []=>bM _
 | p::r=>wA p x (λe b=>by rw [xP,b];exact bJ _) λn b=>by rw [xP,b];exact bK (Xs r)
theorem aHj {h:Int->Int} {l l':List Int} (p:l.Perm l'):T h l=T h l':=by
 induction p with
 | nil=>rfl
 | cons x _ i=>exact congrArg (h x+ ·) i
 | swap x y l=>exact yI ..
 | trans _ _ i j=>exact i.trans j
theorem Gb {h h':Int->Int}:∀l:List Int,(∀x,x∈l->h x=h' x)->T h l=T h' l
 | []=>λY=>rfl
 | x::r=>λe=>by show h x+T h r=h' x+T h' r;rw [e x (cF ..),Gb r λx q=>e x (cX _ q)]
theorem TM:∀l,(keys l).Nodup->T (λx=>g x (nQ l x)) (keys l)=S g l
 | []=>λY=>rfl
 | p::r=>λnd=>by
  have nd:=bV.1 nd
  show g p.1 (nQ (p::r) p.1)+T _ (keys r)=g p.1 p.2+S g r
  rw [show nQ (p::r) p.1=p.2 by rw [Ml,beq_self_eq_true];rfl,<-TM r nd.2,Gb (h':=λx=>g x (nQ r x))]
  intro x hx
  show g x (bif p.1==x then p.2 else nQ r x)=_
  rw [xM λe:p.1=x=>nd.1 (e▸hx)];rfl
noncomputable def WH (l:List (Int×Int)) (x:Int):Bool:= !dC (.int (nQ l x)) (.int 0)
noncomputable def LB (l:List (Int×Int)):List (Int×Int):=((hJ (keys l)).filter (WH l)).map λx=>(x,nQ l x)
theorem aEj:WH l x=true->nQ l x≠0:=λh e=>by unfold WH at h;rw [e] at h;exact nomatch h
theorem aEi (h:WH l x=false):nQ l x=0:=by
 unfold WH dC at h
 exact eq_of_beq ((wV ..).mp h)
theorem TN (h0:∀x,g x 0=0):∀xs:List Int,S g ((xs.filter (WH l)).map λx=>(x,nQ l x))=T (λx=>g x (nQ l x)) xs
 | []=>rfl
 | x::r=>by
  rw [kX]
  cases e:WH l x with
  | true=>exact congrArg (g x (nQ l x)+ ·) (TN h0 r)
  | false=>rw [if_neg (by decide),TN h0 r];show _=g x (nQ l x)+_;rw [aEi e,h0,fD]
theorem aBu (h0:∀x,g x 0=0) (nd:(keys l).Nodup):S g (LB l)=S g l:=(TN h0 _).trans ((aHj (iP _)).trans (TM l nd))
theorem IL {p:Int×Int} (h:p∈LB l):p.1∈keys l/\p.2≠0:=(aT.1 h).elim λx q=>by
 have m:=eA.1 q.1
 rw [<-q.2]
 exact ⟨(iP _).mem_iff.1 m.1,aEj m.2⟩
theorem LA (nd:(keys l).Nodup):(keys (LB l)).Nodup:=by
 unfold LB keys
 rw [dM,show (bY∘λx=>(x,nQ l x))=id from rfl,List.map_id]
 exact ((iP _).nodup_iff.2 nd).filter _
end
section
variable {r n m:Nat} {x d k i:Int} {l:List (Int×Int)} {st:St} {L:List (Nat×O)} {kvs:List (Int×V)} {v w:V}
theorem aMe (h:At st r (.di kvs)) (e:fF kvs i=some v):itemOf (.ref r) (iv i) st=some (v,st):=aY (a:= .int i) rfl (aY h.get (aY (a:=i) rfl (by rw [e];rfl)))
theorem at_getD (h:At st r (.di kvs)) (e:(fF kvs i).getD w=v):method (.ref r) .qK [iv i,w] st=some (v,st):=aY (a:=(iv i,w)) rfl (aY (a:=i) rfl (aY (aY h.get rfl) (congrArg (λv=>some (v,st)) e)))
theorem aGx (h:At st r (.di kvs)) (e:kvs.length<bW) {y:aE} (q:Um st r (.di (Nr kvs i (.d y))) L):setItem (.ref r) (iv i) (.d y) st=some ((),⟨L,st.next⟩):=aY (a:=r) rfl (aY (a:= .int i) rfl (aY h.get (aY (a:=y) rfl (aY (a:=i) rfl (aY (a:=()) (by rw [decide_eq_true e];rfl) (congrArg (λl=>some ((),St.mk l st.next)) q))))))
theorem LZ (h:At st r (.di (l.map dV))) (e:l.length<=63):builtin .sorted [.ref r] st=some (.d (.list ((hJ (keys l)).map .int)),st):=aY (a:=r) rfl (aY (aY h.get rfl) (aY (a:=()) (by rw [aI,decide_eq_true e];rfl) (by rw [dM];rfl)))
theorem AL:∀l:List (Int×Int),pairsOf (l.map jL)=some (l.map dV)
 | []=>rfl
 | p::r=>by show (pairOf (jL p)).bind _=_;rw [AL r];rfl
theorem YJ (nd:(keys l).Nodup):builtin .dict [.d (eJ l)] st=some (.ref st.next,⟨st.objs++[(st.next,.di (l.map dV))],st.next+1⟩):=aY (a:=l.map jL) rfl (aY (a:=l.map dV) (by rw [AL];rfl) (aY (a:=()) (by rw [dM,show (bY∘dV)=bY from rfl,decide_eq_true nd];rfl) rfl))
end
theorem VP {n m:Nat} {L:List (Nat×O)} {l:List (Int×Int)} (hF:Fs n L) (x d:Int) (nd:(keys l).Nodup) (e:l.length<=63):setItem (.ref n) (iv x) (iv (nQ l x+d)) ⟨L++[(n,.di (l.map dV))],m⟩=some ((),⟨L++[(n,.di ((zH l x d).map dV))],m⟩):=by
 rw [<-VS nd]
 exact aGx (y:= .int (nQ l x+d)) (At.top hF) (by rw [aI];exact aX e (by decide)) (Um.top hF)
noncomputable def TL (_:Int) (a:Int):Int:=ab a
theorem rH (a:Int):0<=ab a:=Eq.subst (gI a).symm (motive:=(0<= ·)) (dL _)
theorem Zb (a b:Int):ab (a+b)<=ab a+ab b:=by
 rw [gI,gI,gI];exact cZ.2 (Jg a b)
theorem TP {g:Int->Int->Int} (h:∀x a,0<=g x a):∀l,0<=S g l
 | []=>aW 0
 | p::r=>wU (h _ _) (TP h r)
theorem QQ (x:Int):∀l,ab (nQ l x)<=S TL l
 | []=>aW 0
 | p::r=>wA p x (λY b=>by
   show ab (bif p.1==x then p.2 else nQ r x)<=ab p.2+S TL r
   rw [b];exact eM (TP (λY=>rH) r)) λY b=>by
   show ab (bif p.1==x then p.2 else nQ r x)<=ab p.2+S TL r
   rw [b];exact aD (QQ x r) (lL (rH _))
theorem IH (x d:Int):∀l,nQ (zH l x d) x=nQ l x+d
 | []=>by show (bif x==x then d else 0)=0+d;rw [beq_self_eq_true,fD];rfl
 | p::r=>wA p x (λe b=>by
   show nQ (bif p.1==x then (p.1,p.2+d)::r else p::zH r x d) x=(bif p.1==x then p.2 else nQ r x)+d
   rw [b];show (bif p.1==x then p.2+d else nQ r x)=p.2+d;rw [b];rfl) λY b=>by
   show nQ (bif p.1==x then (p.1,p.2+d)::r else p::zH r x d) x=(bif p.1==x then p.2 else nQ r x)+d
   rw [b];show (bif p.1==x then p.2 else nQ (zH r x d) x)=nQ r x+d;rw [b];exact IH x d r
noncomputable def addQ (k:Int) (l:List (Int×Int)):List (Int×Int)->List (Int×Int)
 | []=>l
 | p::r=>addQ k (zH l p.1 (k*p.2)) r
noncomputable abbrev aKa:List Sx:=[.asg (.s (.v .gU) (.v .kN)) (.call .gE [.bin .add (.met (.v .gU) .qK [.v .kN,.int 0]) (.bin .mul (.v .xA) (.v .mI))])]
theorem Ux {k:Int} {one other c:V} {n m:Nat} {L:List (Nat×O)} (hk:small k=true) (hF:Fs n L):∀ (Q l:List (Int×Int)) (x a:V),(keys l).Nodup->l.length+Q.length<=63->S TL l+S (λY c=>ab (k*c)) Q<=1000000000->
  ∃x' a',∀j,26<=j->forL (ev j).B (.t [.n .kN,.n .mI]) aKa (Q.map jL) [(.dP,one),(.dO,other),(.xA,iv k),(.gU,.ref n),(.qT,c),(.kN,x),(.mI,a),(.dE,.un)] ⟨L++[(n,.di (l.map dV))],m⟩=some ((.next,[(.dP,one),(.dO,other),(.xA,iv k),(.gU,.ref n),(.qT,c),(.kN,x'),(.mI,a'),(.dE,.un)]),⟨L++[(n,.di ((addQ k l Q).map dV))],m⟩)
 | [],l,x,a,_,_,_=>⟨x,a,λY Y=>rfl⟩
 | p::Q,l,x,a,nd,hl,hb=>by
  have h1:S TL (zH l p.1 (k*p.2))+S (λY c=>ab (k*c)) Q<=1000000000:=aD (bQ (TQ (λY=>Zb) l) _) (by rw [fT];exact hb)
  have hs:zI (nQ l p.1+k*p.2):=by
   have e:=QQ p.1 (zH l p.1 (k*p.2))
   rw [IH] at e
   exact aD e (aD (eM (TP (λY Y=>rH _) Q)) h1)
  have i:=Ux (n:=n) (m:=m) (L:=L) (one:=one) (other:=other) (c:=c) hk hF Q (zH l p.1 (k*p.2)) (iv p.1) (iv p.2) (Lx l nd) (aB (cW (Xs l) _) (by rw [bL,dQ 1];exact hl)) h1
  have hg:At ⟨L++[(n,.di (l.map dV))],m⟩ n (.di (l.map dV)):=At.top hF
  exact i.elim λx' i=>i.elim λa' i=>⟨x',a',qU (b:=[(.kN,iv p.1),(.mI,iv p.2)]) rfl (qI (st':=⟨L++[(n,.di ((zH l p.1 (k*p.2)).map dV))],m⟩) [eN (k:=2) (kS hg rfl),eN (k:=2) (kS hg rfl),eP 8 (at_getD hg (XV l p.1)),eP 2 (vD (a:=k) (b:=p.2) (st:=⟨L++[(n,.di (l.map dV))],m⟩) (by rw [hk];rfl)),eC (qR hs ⟨L++[(n,.di (l.map dV))],m⟩),eU 14 (VP (m:=m) hF p.1 (k*p.2) nd (aB (aS _ _) hl))] (by kernel_rfl)) i⟩
noncomputable def aOh (l:List (Int×Int)) (c:Int):Vl:=match l with
 | []=> .n c
 | _::_=> .s ⟨l,c⟩
theorem HK {y:aE} {ys:List aE} {st:St}:nC .ne (.d (.tuple (y::ys))) (.d (.tuple [])) st=some (bv true,st):=aY (a:= .tuple (y::ys)) rfl (aY (a:= .tuple []) rfl (aY (a:=()) (by unfold Xd;rw [decide_eq_true (aB (gT ..) (by decide))];rfl) rfl))
theorem xQ {k:Int}:∀Q l,(keys l).Nodup->(keys (addQ k l Q)).Nodup
 | []=>λY h=>h
 | _::Q=>λY h=>xQ Q _ (Lx _ h)
theorem CT {k:Int}:∀Q l,(addQ k l Q).length<=l.length+Q.length
 | []=>λY=>bM _
 | _::Q=>λl=>aB (CT Q _) (aB (cW (Xs l) _) (by rw [bL,dQ 1];exact bM _))
theorem XZ (l:List (Int×Int)):((hJ (keys l)).filter (WH l)).map (λx=>jL (x,nQ l x))=(LB l).map jL:=by unfold LB;rw [dM];rfl
theorem NX {a b:Vl} {k:Int} (nd:(keys a.sm.parts).Nodup) (hl:a.sm.parts.length+b.sm.parts.length<=63) (hA:S TL a.sm.parts+S (λY c=>ab (k*c)) b.sm.parts<=1000000000) (hc:zI (a.sm.c+k*b.sm.c)) (hk:small k=true) {st:St} (hF:Fs st.next st.objs):
  Run 32 none .pF [.d a.enc,.d b.enc,iv k] st (.d (aOh (LB (addQ k a.sm.parts b.sm.parts)) (a.sm.c+k*b.sm.c)).enc) ⟨st.objs,st.next+1⟩:=by
 have nd':=xQ (k:=k) b.sm.parts _ nd
 refine (Ux (one:= .d a.sm.enc) (other:= .d b.sm.enc) (c:=iv (a.sm.c+k*b.sm.c)) (n:=st.next) (m:=st.next+1) (L:=st.objs) hk hF b.sm.parts a.sm.parts .un .un nd hl hA).elim λx h=>h.elim λy h=> ?_
 have hg:At ⟨st.objs++[(st.next,.di ((addQ k a.sm.parts b.sm.parts).map dV))],st.next+1⟩ st.next (.di ((addQ k a.sm.parts b.sm.parts).map dV)):=At.top hF
 have hK:=Gz (n:=6) (st:=⟨st.objs++[(st.next,.di ((addQ k a.sm.parts b.sm.parts).map dV))],st.next+1⟩) (ρ:=[(.dP,.d a.sm.enc),(.dO,.d b.sm.enc),(.xA,iv k),(.gU,.ref st.next),(.qT,iv (a.sm.c+k*b.sm.c)),(.kN,x),(.mI,y),(.dE,.un)]) (t:= .n .kN) (e:= .tup [.v .kN,.sub (.v .gU) (.v .kN)]) (i:= .cmp (.sub (.v .gU) (.v .kN)) [(.ne,.int 0)]) (F:= .int) (c:=WH (addQ k a.sm.parts b.sm.parts)) (d:=λx=>jL (x,nQ (addQ k a.sm.parts b.sm.parts) x)) (hJ (keys (addQ k a.sm.parts b.sm.parts))) λz hz=>by
  have hf:=aMe hg (Pe _ ((iP _).mem_iff.1 hz))
  exact ⟨_,rfl,λj hj=>⟨kG [eP 4 hf] (by kernel_rfl) j hj,kG [eP 4 hf] (by kernel_rfl) j hj⟩⟩
 rw [XZ] at hK
 have h1:=gQ a st
 have h2:=gQ b st
 have h3:=YJ (st:=st) nd
 have h4:=vD (a:=k) (b:=b.sm.c) (st:=⟨st.objs++[(st.next,.di (a.sm.parts.map dV))],st.next+1⟩) (by rw [hk];rfl)
 have h5:=qR hc ⟨st.objs++[(st.next,.di (a.sm.parts.map dV))],st.next+1⟩
 have h6:=LZ hg (aB (CT _ _) hl)
 revert hK
 cases LB (addQ k a.sm.parts b.sm.parts) with
 | nil=>exact λhK=>Run.cut rfl (A:=[(st.next,.di ((addQ k a.sm.parts b.sm.parts).map dV))]) [eC h1,eC h2,eP 7 h3,eP 2 h4,eC h5,eF h,eP 7 h6,eK hK] (by kernel_rfl)
 | cons p r=>exact λhK=>Run.cut rfl (A:=[(st.next,.di ((addQ k a.sm.parts b.sm.parts).map dV))]) [eC h1,eC h2,eP 7 h3,eP 2 h4,eC h5,eF h,eP 7 h6,eK hK,eP 3 (HK (y:=jL p) (ys:=r.map jL) (st:=⟨st.objs++[(st.next,.di ((addQ k a.sm.parts b.sm.parts).map dV))],st.next+1⟩))] (by kernel_rfl)
section
variable {st:St} {a b:Int} {t:Bool}
theorem aLi (h:decide (a>b)=t):nC .gt (iv a) (iv b) st=some (bv t,st):=by rw [<-h];rfl
noncomputable abbrev aLk:List Sx:=[.qX [.n .dE,.n .jW] [.v .jW,.bin .mod (.v .dE) (.v .jW)]]
theorem QW (x r:Nat):(x:Int).fmod (r:Int)=((x%r:Nat):Int):=Int.fmod_eq_emod_of_nonneg _ (dL r)
theorem Vr (n a:V) (st:St):∀ (f g x r:Nat),r<f->f<=g->∃z,∀k,9<=k->Wc (ev k).E (ev k).B (.cmp (.v .jW) [(.gt,.int 0)]) aLk g [(.lA,n),(.dE,iv x),(.mI,a),(.jW,iv r)] st=some ((.next,[(.lA,n),(.dE,iv (Ix x r:Nat)),(.mI,a),(.jW,z)]),st)
 | 0,_,_,_,h,_=>absurd h (Nu _)
 | f+1,0,_,_,_,h=>absurd h (tV _)
 | f+1,g+1,x,0,_,_=>⟨iv 0,λk hk=>by
  rw [Hg]
  exact aY (kG (v:=bv false) [] (by kernel_rfl) k hk) rfl⟩
 | f+1,g+1,x,r+1,h,l=>(Vr n a st f g (r+1) (x%(r+1)) (bA (wO _ (jN r)) (jZ h)) (iM l)).elim λz i=>⟨z,λk hk=>by
  rw [show Ix x (r+1)=Ix (r+1) (x%(r+1)) by rw [Nat.gcd_comm,Nat.gcd_rec,Nat.gcd_comm]]
  have e:=Xo (st:=st) (a:=(x:Int)) (b:=((r+1:Nat):Int)) (decide_eq_true λe=>nomatch yZ e)
  rw [QW] at e
  exact aY (st':=st) (kG (v:=bv true) [eP 3 (aLi (st:=st) (a:=((r+1:Nat):Int)) (b:=0) (decide_eq_true (Ob.2 (jN r))))] (by kernel_rfl) k hk) (aY (st':=st) (a:=true) rfl (aY (st':=st) (a:=((Fl.next,[(.lA,n),(.dE,iv (r+1:Nat)),(.mI,a),(.jW,iv (x%(r+1):Nat))]):Fl×List (Nm×V))) (qI [eP 2 e] (by kernel_rfl) k hk) (i k hk)))⟩
noncomputable def Ue (f:Nat):List Int->Nat
 | []=>f
 | a::r=>Ue (Ix a.natAbs f) r
theorem BJ (n:V) (st:St):∀ (l:List Int) (f:Nat) (a r:V),f<=1000000000->(∀x,x∈l->x≠0/\zI x)->∃a' r',∀k,12<=k->forL (ev k).B (.n .mI) [.qX [.n .dE,.n .jW] [.blt .abs [.v .mI],.v .dE],.aAg (.cmp (.v .jW) [(.gt,.int 0)]) aLk] (l.map .int) [(.lA,n),(.dE,iv f),(.mI,a),(.jW,r)] st=some ((.next,[(.lA,n),(.dE,iv (Ue f l)),(.mI,a'),(.jW,r')]),st)
 | []=>λf a r Y Y=>⟨a,r,λY Y=>rfl⟩
 | x::l=>λf a r hf h=>by
  have hx:=h x (cF ..)
  have h1:Ix x.natAbs f<=1000000000:=aB (Nat.gcd_le_left _ (rV.2 hx.1)) (cZ.1 (by rw [<-gI];exact hx.2))
  refine (Vr n (iv x) st (f+1) (10^30) x.natAbs f (cI f) (aB (bK hf) (by decide+kernel))).elim λz w=>(BJ n st l _ (iv x) z h1 λy hy=>h y (cX _ hy)).elim λa' i=>i.elim λr' i=> ?_
  rw [<-gI] at w
  exact ⟨a',r',qU (b:=[(.mI,iv x)]) rfl (qI [eW w] (by kernel_rfl)) i⟩
theorem Ty (l:List Int) (h:∀x,x∈l->x≠0/\zI x):gS 20 .yO [.d (.list (l.map .int))] (iv (Ue 0 l)):=λst=>(BJ (.d (.list (l.map .int))) st l 0 .un .un (fJ _) h).elim λx i=>i.elim λy i=>Run.same rfl [eF i] (by kernel_rfl)
theorem Ey:∀ (l:List Int) (f:Nat),Ue f l∣f/\∀a,a∈l->((Ue f l:Nat):Int)∣a
 | []=>λf=>⟨Nat.dvd_refl _,λY h=>nomatch h⟩
 | x::l=>λf=>have i:=Ey l (Ix x.natAbs f);⟨Nat.dvd_trans i.1 (Nat.gcd_dvd_right ..),λa h=>(aJ.1 h).elim (λe=>by rw [e];exact Int.ofNat_dvd_left.2 (Nat.dvd_trans i.1 (Nat.gcd_dvd_left ..))) (i.2 a)⟩
end
noncomputable def aHv (p q:Int):mY:=bif decide (q<=p+1) then [(p,q)] else [(p,p),(q,q)]
theorem Us {a b p q:Int} {st:St} (h:hJ [a,b]=[p,q]):builtin .sorted [.d (.tuple [.int a,.int b])] st=some (.d (.list [.int p,.int q]),st):=by
 show some (V.d (.list ((hJ [a,b]).map .int)),st)=_
 rw [h];rfl
section
variable {n m:Nat} {L:List (Nat×O)} {p q:Int} (hF:Fs n L)
include hF
theorem ON (v:Int):Run 14 none .sC [.ref n,iv v,iv v] ⟨L++[(n,.list [])],m⟩ (.d .none) ⟨L++[(n,.list [jL (v,v)])],m⟩:=
 have h:At ⟨L++[(n,.list [])],m⟩ n (.list []):=At.top hF
 Run.same (by rw [aN,aN];rfl) [eP 7 (zG h),eN (k:=1) (kS h rfl),eN (k:=1) (kS h rfl),eP 8 (pR (x:=jL (v,v)) h (by decide) (Um.top hF))] (by kernel_rfl)
theorem OO (h1:p<q):Run 20 none .sC [.ref n,iv q,iv q] ⟨L++[(n,.list [jL (p,p)])],m⟩ (.d .none) ⟨L++[(n,.list ((aHv p q).map jL))],m⟩:=by
 have h:At ⟨L++[(n,.list [jL (p,p)])],m⟩ n (.list [jL (p,p)]):=At.top hF
 have g:=Pl h (i:= -1) (x:=jL (p,p)) rfl
 unfold aHv
 cases e:decide (q<=p+1) with
 | true=>exact Run.same (by rw [aN,aN];rfl) [eP 7 (zG h),eP 4 g,eT ⟨L++[(n,.list [jL (p,p)])],m⟩ e,eP 4 g,eT ⟨L++[(n,.list [jL (p,p)])],m⟩ (decide_eq_true (show q>p from h1)),eP 4 g,eU 14 (aGw (i:= -1) (j:=0) (y:=jL (p,q)) h rfl (Um.top hF))] (by kernel_rfl)
 | false=>exact Run.same (by rw [aN,aN];rfl) [eP 7 (zG h),eP 4 g,eT ⟨L++[(n,.list [jL (p,p)])],m⟩ e,eN (k:=1) (kS h rfl),eN (k:=1) (kS h rfl),eP 8 (pR (x:=jL (q,q)) h (show 1<bW by decide) (Um.top hF))] (by kernel_rfl)
theorem OL:Run 20 none .sC [.ref n,iv p,iv p] ⟨L++[(n,.list [jL (p,p)])],m⟩ (.d .none) ⟨L++[(n,.list [jL (p,p)])],m⟩:=
 have h:At ⟨L++[(n,.list [jL (p,p)])],m⟩ n (.list [jL (p,p)]):=At.top hF
 have g:=Pl h (i:= -1) (x:=jL (p,p)) rfl
 Run.same rfl [eP 7 (zG h),eP 4 g,eT ⟨L++[(n,.list [jL (p,p)])],m⟩ (decide_eq_true (dA (mZ p))),eP 4 g,eT ⟨L++[(n,.list [jL (p,p)])],m⟩ (decide_eq_false (zB p))] (by kernel_rfl)
end
noncomputable def UC (p q:Int):mY:=bif decide (p<q) then aHv p q else [(p,p)]
theorem GA {r:Nat} {xs:List aE} {st:St} (h:At st r (.list xs)):builtin .tuple [.ref r] st=some (.d (.tuple xs),st):=aY (aY h.get rfl) rfl
theorem Oh {a b p q:Int} (hs:hJ [a,b]=[p,q]) (hpq:p<=q) {st:St} (hF:Fs st.next st.objs):Run 30 none .tQ [.d (.tuple [.int a,.int b])] st (.d (eJ (UC p q))) ⟨st.objs,st.next+1⟩:=by
 have h1:=ON (m:=st.next+1) hF p
 unfold UC
 cases e:decide (p<q) with
 | true=>exact Run.cut rfl (A:=[(st.next,.list ((aHv p q).map jL))]) [eP 7 (st':=⟨st.objs++[(st.next,.list [])],st.next+1⟩) (Us hs),eC h1,eC (OO (m:=st.next+1) hF (of_decide_eq_true e)),eP 7 (GA (st:=⟨st.objs++[(st.next,.list ((aHv p q).map jL))],st.next+1⟩) (At.top hF))] (by kernel_rfl)
 | false=>
  have e':q=p:=dU (dD.1 (of_decide_eq_false e)) hpq
  rw [e'] at hs
  exact Run.cut rfl (A:=[(st.next,.list [jL (p,p)])]) [eP 7 (st':=⟨st.objs++[(st.next,.list [])],st.next+1⟩) (Us hs),eC h1,eC (OL (p:=p) (m:=st.next+1) hF),eP 7 (GA (st:=⟨st.objs++[(st.next,.list [jL (p,p)])],st.next+1⟩) (At.top hF))] (by kernel_rfl)
mutual
inductive Kd where | le | ne | eq
inductive Sg where | le | lt | eq | ne | ge | gt
end
noncomputable def Kd.ctorIdx (x:Kd):Nat:=Kd.casesOn x 0 1 2
noncomputable def Sg.ctorIdx (x:Sg):Nat:=Sg.casesOn x 0 1 2 3 4 5
noncomputable def Kd.s:Kd->aE
 | .le=> .str Nm.kU.str
 | .ne=> .str Nm.rB.str
 | .eq=> .str Nm.mA.str
structure Au where
 k:Kd
 cs:List Int
 xs:List Int
 c:Int
noncomputable def qV (xs:List Int):aE:= .tuple (xs.map .int)
noncomputable def Au.enc (l:Au):aE:= .tuple [l.k.s,qV l.cs,qV l.xs,.int l.c]
inductive Told where
 | aAy (l:Au)
 | Ad (b:Int) (l:Au)
 | imp (b:Int) (l:Au)
 | clause (u d:List Int)
 | ao (w:Bool) (xs:List Int) (b:Int)
 | xor (a b c:Int)
 | dm (w:Bool) (x y z:Int)
 | el (i a b z:Int)
 | eo (i a b z:Int)
noncomputable def UB (w:Bool) (a b:Nm):aE:=match w with
 | true=> .str a.str
 | false=> .str b.str
noncomputable def Told.enc:Told->aE
 | .aAy l=>l.enc
 | .Ad b l=> .tuple [.str Nm.Hy.str,.int b,l.enc]
 | .imp b l=> .tuple [.str Nm.AU.str,.int b,l.enc]
 | .clause u d=> .tuple [.str Nm.Aj.str,qV u,qV d]
 | .ao w xs b=> .tuple [UB w .Vg .AS,qV xs,.int b]
 | .xor a b c=> .tuple [.str Nm.Vd.str,.int a,.int b,.int c]
 | .dm w x y z=> .tuple [UB w .xB .Ai,.int x,.int y,.int z]
 | .el i a b z=> .tuple [.str Nm.kA.str,.int i,.tuple [.int a,.int b],.int z]
 | .eo i a b z=> .tuple [.str Nm.pQ.str,.int i,.tuple [.int a,.int b],.int z]
inductive Key where
 | sum (t:Sm)
 | Ad (l:Au)
 | or (xs:List Int)
 | all (ts:List Tr)
 | xor (a b:Int)
 | dm (w:Bool) (x y:Int)
 | uF (y:Int) (t:Tr) (D:mY)
 | el (i a b:Int)
 | eo (i a b:Int)
noncomputable def Key.ctorIdx (x:Key):Nat:=Key.casesOn x (λY=>0) (λY=>1) (λY=>2) (λY=>3) (λY Y=>4) (λY Y Y=>5) (λY Y Y=>6) (λY Y Y=>7) (λY Y Y=>8)
noncomputable def Key.enc:Key->aE
 | .sum t=>t.enc
 | .Ad l=> .tuple [.str Nm.Hy.str,l.enc]
 | .or xs=> .tuple [.str Nm.AS.str,qV xs]
 | .all ts=> .tuple [.str Nm.PB.str,.tuple (ts.map Tr.enc)]
 | .xor a b=> .tuple [.str Nm.Vd.str,.int a,.int b]
 | .dm w x y=> .tuple [UB w .xB .Ai,.int x,.int y]
 | .uF y t D=> .tuple [.str Nm.Ow.str,.int y,t.enc,eJ D]
 | .el i a b=> .tuple [.str Nm.kA.str,.int i,.tuple [.int a,.int b]]
 | .eo i a b=> .tuple [.str Nm.pQ.str,.int i,.tuple [.int a,.int b]]
noncomputable def Kn (n:Nat) (x:aE):Prop:=Gk x=true/\x.depth<=n
noncomputable def aAb (n:Nat) (xs:List aE):Prop:=Gy xs=true/\uO xs<=n
section
variable {n:Nat} {x:aE} {xs:List aE} {α:Type}
theorem Kn.tup (h:aAb n xs):Kn (n+1) (.tuple xs):=⟨h.1,bK h.2⟩
theorem aAb.nil:aAb n []:=⟨rfl,fJ _⟩
theorem aAb.cons (h:Kn n x) (k:aAb n xs):aAb n (x::xs):=⟨by show (Gk x&&Gy xs)=true;rw [h.1,k.1];rfl,Nat.max_le.2 ⟨h.2,k.2⟩⟩
theorem Kn.int {i:Int}:Kn n (.int i):=⟨rfl,fJ _⟩
theorem Kn.str {s:Str}:Kn n (.str s):=⟨rfl,fJ _⟩
theorem Kn.bool {b:Bool}:Kn n (.bool b):=⟨rfl,fJ _⟩
theorem aAb.map {f:α->aE} (h:∀a,Kn n (f a)):∀l:List α,aAb n (l.map f)
 | []=> .nil
 | a::l=> .cons (h a) (aAb.map h l)
theorem aKw (w:Bool) (a b:Nm):Kn n (UB w a b):=by cases w<;>exact .str
theorem aOp (k:Kd):Kn n k.s:=by cases k<;>exact .str
theorem aFa (xs:List Int):Kn (n+1) (qV xs):= .tup (.map (λY=> .int) xs)
theorem aKx (D:mY):Kn (n+2) (eJ D):= .tup (.map (λY=> .tup (.cons .int (.cons .int .nil))) D)
theorem aEz (t:Tr):Kn (n+1) t.enc:=by
 cases t with
 | b v=>exact .bool
 | bit x u=>exact .tup (.cons .str (.cons .int (.cons .bool .nil)))
theorem Key.kn (k:Key):Kn 6 k.enc:=by
 cases k with
 | sum t=>exact .tup (.cons .str (.cons (aKx t.parts) (.cons .int .nil)))
 | Ad l=>exact .tup (.cons .str (.cons (.tup (.cons (aOp l.k) (.cons (aFa l.cs) (.cons (aFa l.xs) (.cons .int .nil))))) .nil))
 | or xs=>exact .tup (.cons .str (.cons (aFa xs) .nil))
 | all ts=>exact .tup (.cons .str (.cons (.tup (.map aEz ts)) .nil))
 | xor a b=>exact .tup (.cons .str (.cons .int (.cons .int .nil)))
 | dm w x y=>exact .tup (.cons (aKw w _ _) (.cons .int (.cons .int .nil)))
 | uF y t D=>exact .tup (.cons .str (.cons .int (.cons (aEz t) (.cons (aKx D) .nil))))
 | el i a b=>exact .tup (.cons .str (.cons .int (.cons (.tup (.cons .int (.cons .int .nil))) .nil)))
 | eo i a b=>exact .tup (.cons .str (.cons .int (.cons (.tup (.cons .int (.cons .int .nil))) .nil)))
theorem Key.isTup (k:Key):Mine.isTup k.enc=true:=by cases k<;>rfl
theorem Key.ok (k:Key):keyOk k.enc=true:=by unfold keyOk;rw [k.isTup,k.kn.1,decide_eq_true k.kn.2];rfl
theorem RD:(∀x,Gk x=true->dC x x=true)/\∀xs,Gy xs=true->qD xs xs=true:=
 wC (λh=>nomatch h) (λb Y=>beq_self_eq_true b) (λi Y=>beq_self_eq_true i) (λx Y=>beq_self_eq_true x) (λY Y h=>nomatch h) (λY i=>i) (λY h=>nomatch h) (λY=>rfl) λx xs i j h=>by
  have h:=aM.1 (show (Gk x&&Gy xs)=true from h)
  show (dC x x&&qD xs xs)=true
  rw [i h.1,j h.2];rfl
theorem Key.refl (k:Key):dC k.enc k.enc=true:=RD.1 _ k.kn.1
end
noncomputable def rL (x:aE):List aE:=match x with
 | .tuple l=>l
 | _=>[]
noncomputable def Ng:aE->aE:=PyData.rec (motive_1:=λY=>aE) (motive_2:=λY=>List aE) (motive_3:=λY=>Unit) (motive_4:=λY=>Unit) .none (λb=> .int (b2i b)) .int .str (λY l=> .list l) (λY l=> .tuple l) (λk Y=> .dict k) [] (λY Y x xs=>x::xs) () (λY Y Y Y=>()) (λY Y Y Y=>())
noncomputable def AO:List aE->List aE:=dR [] λx Y xs=>Ng x::xs
theorem Bn (xs:List aE):Ng (.tuple xs)= .tuple (AO xs)/\Ng (.list xs)= .list (AO xs):=by
 induction xs with
 | nil=>exact ⟨rfl,rfl⟩
 | cons x xs i=>exact ⟨congrArg (λy=>rO (Ng x::rL y)) i.1,congrArg (λy=>Dk (Ng x::rL y)) i.1⟩
theorem OY:(∀x y,dC x y=true->Ng x=Ng y)/\∀xs ys,qD xs ys=true->AO xs=AO ys:=by
 refine wC (λy h=> ?_) (λb y h=> ?_) (λi y h=> ?_) (λx y h=> ?_) (λxs i y h=> ?_) (λxs i y h=> ?_) (λk y h=> ?_) (λy h=> ?_) λx xs i j y h=> ?_
 ·cases y<;>first | rfl | exact lH h
 ·cases y<;>first | exact lH h | exact congrArg mE (eq_of_beq h) | exact congrArg (λb=>mE (b2i b)) (eq_of_beq h)
 ·cases y<;>first | exact lH h | exact congrArg mE (eq_of_beq h)
 ·cases y<;>first | exact lH h | exact congrArg Pt (eq_of_beq h)
 ·cases y<;>first | exact lH h | (rw [(Bn _).2,(Bn _).2];exact congrArg Dk (i _ h))
 ·cases y<;>first | exact lH h | (rw [(Bn _).1,(Bn _).1];exact congrArg rO (i _ h))
 ·cases y<;>exact lH h
 ·cases y<;>first | rfl | exact lH h
 ·cases y with
  | nil=>exact lH h
  | cons y ys=>
   have h:=aM.1 (show (dC x y&&qD xs ys)=true from h)
   show Ng x::AO xs=Ng y::AO ys
   rw [i y h.1,j ys h.2]
noncomputable def rI (x:aE):Int:=match x with
 | .int i=>i
 | _=>0
noncomputable def rG (x:aE) (k:Nat):aE:=((rL x).drop k).headD .none
noncomputable def aDx (x:aE):List Int:=(rL x).map rI
noncomputable def OJ (x:aE):mY:=(rL x).map λx=>(rI (rG x 0),rI (rG x 1))
noncomputable def KP (x:aE) (n:Nm):Bool:=match x with
 | .str s=>s==n.str
 | _=>false
noncomputable def aJz (x:aE):Tr:=match x with
 | .int i=> .b (i==1)
 | x=> .bit (rI (rG x 1)) (rI (rG x 2)==1)
noncomputable def VO (x:aE):Au:=⟨bif KP (rG x 0) .kU then .le else bif KP (rG x 0) .rB then .ne else .eq,aDx (rG x 1),aDx (rG x 2),rI (rG x 3)⟩
noncomputable def rKey (x:aE):Key:=
 let t:=KP (rG x 0)
 bif t .Eh then .sum ⟨OJ (rG x 1),rI (rG x 2)⟩ else bif t .Hy then .Ad (VO (rG x 1)) else bif t .AS then .or (aDx (rG x 1)) else bif t .PB then .all ((rL (rG x 1)).map aJz)
 else bif t .Vd then .xor (rI (rG x 1)) (rI (rG x 2)) else bif t .xB then .dm true (rI (rG x 1)) (rI (rG x 2)) else bif t .Ai then .dm false (rI (rG x 1)) (rI (rG x 2))
 else bif t .Ow then .uF (rI (rG x 1)) (aJz (rG x 2)) (OJ (rG x 3)) else bif t .kA then .el (rI (rG x 1)) (rI (rG (rG x 2) 0)) (rI (rG (rG x 2) 1)) else .eo (rI (rG x 1)) (rI (rG (rG x 2) 0)) (rI (rG (rG x 2) 1))
theorem GX {α:Type} {f:α->aE} {r:aE->α} (h:∀a,r (Ng (f a))=a):∀l:List α,(AO (l.map f)).map r=l
 | []=>rfl
 | a::l=>by show r (Ng (f a))::(AO (l.map f)).map r=a::l;rw [h a,GX h l]
theorem aJx (t:Tr):aJz (Ng t.enc)=t:=by
 rcases t with b | ⟨x,u⟩
 ·cases b<;>rfl
 ·cases u<;>rfl
theorem aNz (xs:List Int):aDx (Ng (qV xs))=xs:=by unfold qV;rw [(Bn _).1];exact GX (f:= .int) (λY=>rfl) xs
theorem GY (D:mY):OJ (Ng (eJ D))=D:=by unfold eJ;rw [(Bn _).1];exact GX (f:=jL) (λY=>rfl) D
theorem aJy (l:Au):VO (Ng l.enc)=l:=by
 rcases l with ⟨k,cs,xs,c⟩
 have h:VO (Ng (Au.enc ⟨k,cs,xs,c⟩))=⟨k,aDx (Ng (qV cs)),aDx (Ng (qV xs)),c⟩:=by cases k<;>kernel_rfl
 rw [h,aNz,aNz]
theorem aAq (k:Key):rKey (Ng k.enc)=k:=by
 cases k with
 | sum t=>exact (show rKey (Ng t.enc)= .sum ⟨OJ (Ng (eJ t.parts)),t.c⟩ by kernel_rfl).trans (by rw [GY])
 | Ad l=>exact (show _=Key.Ad (VO (Ng l.enc)) by kernel_rfl).trans (by rw [aJy])
 | or xs=>exact (show _=Key.or (aDx (Ng (qV xs))) by kernel_rfl).trans (by rw [aNz])
 | all ts=>exact (show _=Key.all ((rL (Ng (.tuple (ts.map Tr.enc)))).map aJz) by kernel_rfl).trans (by rw [(Bn _).1];exact congrArg Key.all (GX aJx ts))
 | xor a b=>kernel_rfl
 | dm w x y=>cases w<;>kernel_rfl
 | uF y t D=>exact (show _=Key.uF y (aJz (Ng t.enc)) (OJ (Ng (eJ D))) by kernel_rfl).trans (by rw [aJx,GY])
 | el i a b=>kernel_rfl
 | eo i a b=>kernel_rfl
theorem Key.eq {a b:Key} (h:dC a.enc b.enc=true):a=b:=by rw [<-aAq a,<-aAq b,OY.1 _ _ h]
structure GS where
 vars:List (Str×mY)
 eV:List Told
 made:List (Key×Int)
structure Kx where
 z:Int
 p:V
noncomputable def xL (p:Str×mY):aE:= .tuple [.str p.1,eJ p.2]
noncomputable def Ye (p:Key×Int):aE×aE:=(p.1.enc,.int p.2)
noncomputable def core (K:Kx) (G:GS):List (Nat×O):=[(0,.list [.int K.z]),(1,.ns [(.fZ,.inst .flat 2),(.vC,.ref 5),(.gV,K.p)]),(2,.ns [(.vB,.ref 3),(.sB,.ref 4),(.Eo,.d (.tuple [.str Nm.Ve.str,.none])),(.yK,.d (.tuple []))]),
 (3,.list (G.vars.map xL)),(4,.list (G.eV.map Told.enc)),(5,.dt (G.made.map Ye))]
noncomputable def cR (K:Kx) (G:GS) (T:List (Nat×O)) (m:Nat):St:=⟨core K G++T,m⟩
noncomputable def Ok (T:List (Nat×O)) (m:Nat):Prop:=Fs m T/\6<=m
theorem Ok.up {T:List (Nat×O)} {m:Nat} (h:Ok T m) (d:Nat):Ok T (m+d):=⟨λq hq=>bA (h.1 q hq) (aS m d),aB h.2 (aS m d)⟩
theorem Ok.fs {T:List (Nat×O)} {m:Nat} (h:Ok T m) {K:Kx} {G:GS}:Fs m (core K G++T):=λq hq=>(aV.1 hq).elim (λhq=>bA (of_decide_eq_true (dH.1 (show (core K G).all (λq=>decide (q.1<6))=true from rfl) q hq)) h.2) (h.1 q)
abbrev DA:V:= .inst .flat 2
abbrev mM:V:= .inst .func 1
noncomputable def Me (n:Nat) (f:Nm) (vs:List V) (G:GS) (v:V) (G':GS) (d:Nat):Prop:=∀K T m,Ok T m->Run n (some .func) f (mM::vs) (cR K G T m) v (cR K G' T (m+d))
noncomputable def GS.gB (G:GS) (t:Told):GS:={G with eV:=G.eV++[t]}
noncomputable def GS.add (G:GS) (k:Key) (D:mY):GS:={vars:=G.vars++[(pL G.vars.length,D)],eV:=G.eV,made:=G.made++[(k,(G.vars.length:Int))]}
noncomputable def GS.eG (G:GS) (x:Int):mY:=((G.vars[x.toNat]?).map (·.2)).getD []
noncomputable def In (n:Nat) (x:Int):Prop:=0<=x/\x<n
noncomputable def GS.n (G:GS):Nat:=G.vars.length
structure pW (G:GS) (k e:Nat):Prop where
 v:G.n+k<=60
 t:G.eV.length+20*k+e<=2000
 m:G.made.length<=G.n
abbrev nU (G:GS) (k:Nat):Prop:=pW G k 0
section
variable (K:Kx) {G:GS} (T:List (Nat×O)) (m:Nat) {k:Nat} {x:Int} {D:mY}
theorem AD:Run 9 (some .flat) .Xj [DA] (cR K G T m) (iv G.n) (cR K G T m):=Run.same rfl [eP 7 (zG (xs:=G.vars.map xL) (st:=cR K G T m) (r:=3) rfl)] (by unfold GS.n;rw [<-aI (f:=xL)];kernel_rfl)
theorem Aa (t:Told) (h:G.eV.length<10000):Run 12 (some .flat) .pE [DA,.d t.enc] (cR K G T m) (.d .none) (cR K (G.gB t) T m):=Run.same rfl [eP 8 (pR (r:=4) (L:=core K (G.gB t)++T) (x:=t.enc) (xs:=G.eV.map Told.enc) (st:=cR K G T m) rfl (by rw [aI];exact lS h (by decide)) (by unfold Um GS.gB core;rw [cS];rfl))] (by kernel_rfl)
theorem aFi (h:In G.n x):Kg (G.vars.map xL).length x=some x.toNat:=by unfold Kg;rw [aI];exact if_pos h
theorem aCi (h:In G.n x):∃p,G.vars[x.toNat]? =some p/\G.eG x=p.2:=by
 have l:x.toNat<G.vars.length:=(vR h.1).2 h.2
 exact ⟨_,bZ l,by unfold GS.eG;rw [bZ l];rfl⟩
theorem qH (h:In G.n x):Run 10 (some .flat) .jX [DA,iv x] (cR K G T m) (.d (eJ (G.eG x))) (cR K G T m):=(aCi h).elim λp hp=>by
 rw [hp.2]
 exact Run.same rfl [eP 4 (Pl (r:=3) (st:=cR K G T m) (i:=x) (x:=xL p) (xs:=G.vars.map xL) rfl (by unfold atIdx;rw [aFi h];show (G.vars.map xL)[x.toNat]? =_;rw [lU,hp.1];rfl)),eX 4] (by kernel_rfl)
theorem Ws (s:Str) (h:G.n<10000):Run 14 (some .flat) .tF [DA,.d (.str s),.d (eJ D)] (cR K G T m) (iv G.n) (cR K {G with vars:=G.vars++[(s,D)]} T m):=by
 have e:iv ((((G.vars++[(s,D)]).map xL).length:Nat) - 1:Int)=iv G.n:=by rw [aI,aN];exact congrArg iv (Int.add_sub_cancel (G.vars.length:Int) 1)
 rw [<-e]
 exact Run.same rfl [eP 8 (pR (r:=3) (L:=core K {G with vars:=G.vars++[(s,D)]}++T) (x:=xL (s,D)) (xs:=G.vars.map xL) (st:=cR K G T m) rfl (by rw [aI];exact lS h (by decide)) (by unfold Um core;rw [cS];rfl)),eP 7 (zG (xs:=(G.vars++[(s,D)]).map xL) (st:=cR K {G with vars:=G.vars++[(s,D)]} T m) (r:=3) rfl)] (by kernel_rfl)
end
noncomputable def GS.find (G:GS) (k:Key):Option Int:=(G.made.find? λp=>dC p.1.enc k.enc).map (·.2)
theorem Sl (G:GS) (k:Key):tI (G.made.map Ye) k.enc=(G.find k).map .int:=by
 unfold tI GS.find
 rw [List.find?_map]
 show Ba _ (Ba _ (G.made.find? λp=>dC p.1.enc k.enc))=_
 cases G.made.find? λp=>dC p.1.enc k.enc<;>rfl
theorem QY {G:GS} {k:Key} {z:Int} (h:G.find k=some z):(k,z)∈G.made:=(bO.1 h).elim λp q=>by
 have e:p.1=k:=Key.eq (Ci (p:=λp:Key×Int=>dC p.1.enc k.enc) q.1)
 rw [<-e,<-q.2]
 exact pT q.1
theorem QZ {G:GS} {k:Key} {D:mY} (h:G.find k=none):(G.add k D).find k=some (G.vars.length:Int):=by
 unfold GS.find GS.add at*
 rw [Option.map_eq_none_iff] at h
 rw [Jb,h,Px,List.find?_cons_of_pos (p:=λp:Key×Int=>dC p.1.enc k.enc) (a:=(k,(G.vars.length:Int))) k.refl]
 rfl
section
variable {K:Kx} {G:GS} {T:List (Nat×O)} {m:Nat} {k:Key} {z:Int} {D:mY}
theorem SX {r:Nat} {st:St} {kvs:List (aE×aE)} {o:Option aE} (h:At st r (.dt kvs)) (e:tI kvs k.enc=o):nC .KJ (.d k.enc) (.ref r) st=some (bv (!o.isSome),st):=aY (a:=k.enc) rfl (aY h.get (aY (a:=()) (by rw [k.ok];rfl) (by rw [e];rfl)))
theorem aBr {r:Nat} {st:St} {kvs:List (aE×aE)} {y:aE} (h:At st r (.dt kvs)) (e:tI kvs k.enc=some y):itemOf (.ref r) (.d k.enc) st=some (.d y,st):=aY (a:=k.enc) rfl (aY h.get (aY (a:=()) (by rw [k.ok];rfl) (aY (a:=y) (by rw [e];rfl) rfl)))
theorem ZO {r:Nat} {st:St} {kvs:List (aE×aE)} {y:aE} {L:List (Nat×O)} (h:At st r (.dt kvs)) (e:tI kvs k.enc=none) (l:kvs.length<bW) (q:Um st r (.dt (kvs++[(k.enc,y)])) L):setItem (.ref r) (.d k.enc) (.d y) st=some ((),⟨L,st.next⟩):=aY (a:=r) rfl (aY (a:=k.enc) rfl (aY h.get (aY (a:=y) rfl (aY (a:=()) (by rw [k.ok];rfl) (aY (a:=()) (by rw [e,decide_eq_true l];rfl) (congrArg (λl=>some ((),St.mk l st.next)) q))))))
theorem Qy (h:G.find k=some z):Me 24 .sD [.d k.enc,.d (eJ D)] G (.d (.tuple [.int z,.bool false])) G 0:=λK T m o=>by
 have e:=Sl G k
 rw [h] at e
 exact Run.same rfl [eP 3 (SX (r:=5) (st:=cR K G T m) rfl e),eP 4 (aBr (r:=5) (st:=cR K G T m) rfl e)] (by kernel_rfl)
theorem BN {a b c d:V} {st:St}:∀ (D:mY) (l h:V),(∀p,p∈D->zI p.1/\zI p.2)->∃l' h',∀j,24<=j->forL (ev j).B (.t [.n .dY,.n .cT]) [.ex (.call .gE [.blt .max [.blt .abs [.v .dY],.blt .abs [.v .cT]]])] (D.map jL) [(.bD,a),(.Jz,b),(.iH,c),(.eR,d),(.dY,l),(.cT,h)] st=some ((.next,[(.bD,a),(.Jz,b),(.iH,c),(.eR,d),(.dY,l'),(.cT,h')]),st)
 | []=>λl h Y=>⟨l,h,λY Y=>rfl⟩
 | p::D=>λl h hD=>by
  have hp:=hD p (cF ..)
  have hs:zI (max (ab p.1) (ab p.2)):=by
   show ab (max (ab p.1) (ab p.2))<=1000000000
   rw [show ab (max (ab p.1) (ab p.2))=max (ab p.1) (ab p.2) from if_neg (dD.2 (aD (rH p.1) (cH ..)))]
   exact gO.2 hp
  exact (BN D (iv p.1) (iv p.2) λq hq=>hD q (cX _ hq)).elim λl' i=>i.elim λh' i=>⟨l',h',qU (b:=[(.dY,iv p.1),(.cT,iv p.2)]) rfl (qI [eC (qR hs st)] (by kernel_rfl)) i⟩
theorem XW:∀i:Nat,i<61->(decide ((i:Int).natAbs<10^9)&&nF (pL i)&&decide ((pL i).cps.size<=bW))=true:=by decide+kernel
theorem Qz (h:G.find k=none) (hD:∀p,p∈D->zI p.1/\zI p.2) (hR:nU G 1):Me 36 .sD [.d k.enc,.d (eJ D)] G (.d (.tuple [.int G.vars.length,.bool true])) (G.add k D) 0:=λK T m o=>(BN (a:=mM) (b:= .d k.enc) (c:= .d (eJ D)) (d:=bv true) (st:=cR K G T m) D .un .un hD).elim λl' i=>i.elim λh' i=>by
 have e:=Sl G k
 rw [h] at e
 have e2:=Sl (G.add k D) k
 rw [QZ h] at e2
 have hn:G.n<=59:=iM hR.v
 have l3:(G.made.map Ye).length<bW:=by rw [aI];exact aX (aB hR.m hn) (by decide)
 have hf:(do let i<-toInt (iv G.n);dK (decide (i.natAbs<10^9)&&nF (pL i)&&decide ((pL i).cps.size<=bW));pure (.d (.str (pL i))):M V) (cR K G T m)=some (.d (.str (pL G.n)),cR K G T m):=aY (a:=(G.n:Int)) rfl (aY (a:=()) (by rw [XW G.n (aX hn (by decide))];rfl) rfl)
 exact Run.same rfl [eP 3 (SX (r:=5) (st:=cR K G T m) rfl e),eF i,eC (AD K (G:=G) T m),eP 12 hf,eC (Ws K (G:=G) T m (D:=D) (pL G.n) (aX hn (by decide))),eU 14 (ZO (r:=5) (st:=cR K {G with vars:=G.vars++[(pL G.n,D)]} T m) (y:= .int G.n) (L:=core K (G.add k D)++T) rfl e l3 (by unfold Um GS.add core;rw [cS (l₁:=G.made)];rfl)),eP 4 (aBr (r:=5) (st:=cR K (G.add k D) T m) rfl e2)] (by kernel_rfl)
end
noncomputable def Sm.at (v:Int->Int) (t:Sm):Int:=t.c+S (λx a=>a*v x) t.parts
noncomputable def Tr.at (v:Int->Int):Tr->Bool
 | .b w=>w
 | .bit x u=>(v x==1)==u
noncomputable def dot (v:Int->Int):List Int->List Int->Int
 | a::cs,x::xs=>a*v x+dot v cs xs
 | _,_=>0
noncomputable def Kd.rel (k:Kd) (i:Int):Bool:=match k with
 | .le=>decide (i<=0)
 | .ne=> !(i==0)
 | .eq=>i==0
noncomputable def Au.kept (v:Int->Int) (l:Au):Bool:=l.k.rel (dot v l.cs l.xs - l.c)
noncomputable def aFw (x y r:Int):Bool:=decide (ab r<ab y)&&(decide (0<=r*x)&&(x - r).fmod y==0)
noncomputable def RF (i a b z:Int):Bool:=(i==1&&z==a)||(i==2&&z==b)
noncomputable def Told.kept (v:Int->Int):Told->Bool
 | .aAy l=>l.kept v
 | .Ad b l=>l.kept v==(v b==1)
 | .imp b l=> !(v b==1)||l.kept v
 | .clause u d=>decide (0<T v u+T (λx=>1 - v x) d)
 | .ao w xs b=>(bif w then T v xs==xs.length else decide (0<T v xs))==(v b==1)
 | .xor a b c=>(v a+v b+v c).fmod 2==0
 | .dm w x y z=>aFw (v x) (v y) (bif w then v x - v y*v z else v z)
 | .el i a b z=>RF (v i) (v a) (v b) (v z)
 | .eo i a b z=>RF (v i) a b (v z)
noncomputable def Told.scope:Told->List Int
 | .aAy l=>l.xs
 | .Ad b l=>b::l.xs
 | .imp b l=>b::l.xs
 | .clause u d=>u++d
 | .ao _ xs b=>xs++[b]
 | .xor a b c=>[a,b,c]
 | .dm _ x y z=>[x,y,z]
 | .el i a b z=>[a,b,i,z]
 | .eo i _ _ z=>[i,z]
noncomputable def Told.aOl:Told->List Au
 | .aAy l=>[l]
 | .Ad _ l=>[l]
 | .imp _ l=>[l]
 | _=>[]
noncomputable def Key.val (v:Int->Int):Key->Int
 | .sum t=>t.at v
 | .Ad l=>b2i (l.kept v)
 | .or xs=>b2i (decide (0<T v xs))
 | .all ts=>b2i (ts.all (Tr.at v))
 | .xor a b=>b2i ((v a==1) != (v b==1))
 | .dm w x y=>bif w then (v x).tdiv (v y) else (v x).tmod (v y)
 | .uF y t D=>bif t.at v then v y else lo D
 | .el i a b=>bif v i==1 then v a else v b
 | .eo i a b=>bif v i==1 then a else b
section
variable {v v':Int->Int} {n m:Nat} {x:Int}
noncomputable def Agree (n:Nat) (v v':Int->Int):Prop:=∀x,In n x->v x=v' x
theorem Agree.symm (h:Agree n v v'):Agree n v' v:=λx hx=>(h x hx).symm
theorem In.mono (h:n<=m) (hx:In n x):In m x:=⟨hx.1,fH hx.2 (cZ.2 h)⟩
theorem Agree.mono (h:m<=n) (a:Agree n v v'):Agree m v v':=λx hx=>a x (hx.mono h)
theorem Vv:∀cs xs:List Int,(∀x,x∈xs->v x=v' x)->dot v cs xs=dot v' cs xs
 | a::cs,x::xs=>λh=>by show a*v x+dot v cs xs=_;rw [h x (cF ..),Vv cs xs λy hy=>h y (cX _ hy)];rfl
 | [],_=>λY=>rfl
 | _::_,[]=>λY=>rfl
theorem Au.congr {l:Au} (h:∀x,x∈l.xs->v x=v' x):l.kept v=l.kept v':=by unfold Au.kept;rw [Vv _ _ h]
theorem Told.congr {t:Told} (h:∀x,x∈t.scope->v x=v' x):t.kept v=t.kept v':=by
 cases t with
 | aAy l=>exact Au.congr h
 | Ad b l=>show (l.kept v==(v b==1))=_;rw [Au.congr λx hx=>h x (cX _ hx),h b (cF ..)];rfl
 | imp b l=>show (!(v b==1)||l.kept v)=_;rw [Au.congr λx hx=>h x (cX _ hx),h b (cF ..)];rfl
 | clause u d=>show decide (0<T v u+T (λx=>1 - v x) d)=_;rw [Gb u λx hx=>h x (aL _ hx),Gb d λx hx=>congrArg (1 - ·) (h x (aQ _ hx))];rfl
 | ao w xs b=>show ((bif w then T v xs==xs.length else decide (0<T v xs))==(v b==1))=_;rw [Gb xs λx hx=>h x (aL _ hx),h b (aQ _ (aC.2 rfl))];rfl
 | xor a b c=>show ((v a+v b+v c).fmod 2==0)=_;rw [h a (.head _),h b (.tail _ (.head _)),h c (.tail _ (.tail _ (.head _)))];rfl
 | dm w x y z=>show aFw (v x) (v y) (bif w then v x - v y*v z else v z)=_;rw [h x (.head _),h y (.tail _ (.head _)),h z (.tail _ (.tail _ (.head _)))];rfl
 | el i a b z=>show RF (v i) (v a) (v b) (v z)=_;rw [h a (.head _),h b (.tail _ (.head _)),h i (.tail _ (.tail _ (.head _))),h z (.tail _ (.tail _ (.tail _ (.head _))))];rfl
 | eo i a b z=>show RF (v i) a b (v z)=_;rw [h i (.head _),h z (.tail _ (.head _))];rfl
end
noncomputable def Zl (b:Int):mY->Prop
 | []=>True
 | p::r=>b<p.1/\p.1<=p.2/\Zl p.2 r
structure oQ (D:mY):Prop where
 ne:D≠[]
 ok:Zl (-1001) D
 hi:hi D<=1000
noncomputable def inD (D:mY) (a:Int):Prop:=∃p,p∈D/\p.1<=a/\a<=p.2
abbrev jI:mY:=[(0,1)]
theorem tJ:∀ {D:mY} {b a:Int},Zl b D->inD D a->b<a/\a<=hi D
 | [],_,_,_,h=>h.elim λp q=>nomatch q.1
 | p::r,b,a,h,q=>q.elim λu q=>(aJ.1 q.1).elim (λe=>by
   rw [e] at q
   refine ⟨fH h.1 q.2.1,aD q.2.2 ?_⟩
   cases r with
   | nil=>exact aW _
   | cons s r=>exact dA (fH h.2.2.1 (tJ (D:=s::r) h.2.2 ⟨s,cF ..,aW _,h.2.2.2.1⟩).2)) λe=>by
   have i:=tJ h.2.2 ⟨u,e,q.2⟩
   refine ⟨Bh h.1 (jH h.2.1 i.1),?_⟩
   cases r with
   | nil=>exact nomatch e
   | cons s r=>exact i.2
section
variable {D:mY} {a:Int}
theorem Ss:∀ {E:mY} {b:Int},Zl b E->∀q,q∈E->q.1<=q.2
 | [],_,_,_,h=>nomatch h
 | _::_,_,h,q,m=>(aJ.1 m).elim (λe=>by rw [e];exact h.2.1) (Ss h.2.2 q)
theorem RJ {b:Int} (n:D≠[]) (d:Zl b D):inD D (L.hi D):=by
 cases D with
 | nil=>exact absurd rfl n
 | cons p r=>
  exact (Yb r p).elim λC k=>k.elim λq k=>by
   have m:q∈p::r:=by rw [k.1];exact aQ _ (aC.2 rfl)
   rw [k.2]
   exact ⟨q,m,Ss d q m,aW _⟩
theorem oQ.QL (h:oQ D):inD D (L.hi D):=RJ h.ne h.ok
theorem oQ.aAx (h:oQ D):inD D (lo D):=by
 cases D with
 | nil=>exact absurd rfl h.ne
 | cons p r=>exact ⟨p,cF ..,aW _,h.ok.2.1⟩
theorem oQ.le (h:oQ D) (i:inD D a):lo D<=a/\a<=L.hi D:=by
 cases D with
 | nil=>exact absurd rfl h.ne
 | cons p r=>
  have q:=tJ (D:=p::r) (b:=p.1 - 1) ⟨Du (aW _),h.ok.2⟩ i
  exact ⟨Int.le_of_sub_one_lt q.1,q.2⟩
theorem tC {a b c:Int}:inD [(a,b)] c↔a<=c/\c<=b:=⟨λh=>h.elim λp q=>by rw [aC.1 q.1] at q;exact q.2,λh=>⟨_,aC.2 rfl,h⟩⟩
theorem Hx {a b:Int} (h:a<=b) (h1: -1000<=a) (h2:b<=1000):oQ [(a,b)]:=⟨zV _ _,⟨h1,h,trivial⟩,h2⟩
theorem Hq {a:Int}:inD jI a↔a=0\/a=1:=tC.trans ⟨λh=>(cG h.2).imp (λl=>dU (cM l) h.1) id,λh=>h.elim (λe=>by rw [e];decide) (λe=>by rw [e];decide)⟩
theorem Qe:oQ jI:=Hx (by decide) (by decide) (by decide)
end
noncomputable def tP (D:mY):Int:=max (ab (lo D)) (ab (hi D))
noncomputable def GS.bl (G:GS) (t:Sm):Int:=t.c+S (λx a=>min (a*lo (G.eG x)) (a*hi (G.eG x))) t.parts
noncomputable def GS.bh (G:GS) (t:Sm):Int:=t.c+S (λx a=>max (a*lo (G.eG x)) (a*hi (G.eG x))) t.parts
noncomputable def xF (G:GS) (z:Int):Key->Prop
 | .sum t=>(∀p,p∈t.parts->In G.n p.1)/\G.eG z=[(G.bl t,G.bh t)]
 | .dm _ x _=>In G.n x/\tP (G.eG z)<=tP (G.eG x)
 | .uF _ _ D=>G.eG z=D
 | .el _ a b=>(In G.n a/\In G.n b)/\tP (G.eG z)<=max (tP (G.eG a)) (tP (G.eG b))
 | .eo _ a b=>tP (G.eG z)<=max (ab a) (ab b)
 | _=>G.eG z=jI
structure iK (G:GS) (v:Int->Int):Prop where
 eG:∀x,In G.n x->inD (G.eG x) (v x)
 told:∀t,t∈G.eV->t.kept v=true
structure PS (G:GS) (i:Nat) (v:Int->Int):Prop where
 eG:∀x,In i x->inD (G.eG x) (v x)
 told:∀t,t∈G.eV->(∀x,x∈t.scope->x<i)->t.kept v=true
noncomputable def Told.ok (t:Told):Prop:=t.scope.length<=100/\∀l,l∈t.aOl->l.cs.length=l.xs.length
structure Good (X:Key->Int->Prop) (G:GS):Prop where
 dm:∀x,In G.n x->oQ (G.eG x)
 sc:∀t,t∈G.eV->t.ok/\∀x,x∈t.scope->In G.n x
 key:∀k z,(k,z)∈G.made->(In G.n z/\xF G z k)/\(X k z\/∀v,iK G v->v z=k.val v)
structure Pre (G G':GS):Prop where
 n:G.n<=G'.n
 eG:∀x,In G.n x->G'.eG x=G.eG x
 told:∀t,t∈G.eV->t∈G'.eV
structure Ext (G G':GS):Prop extends Pre G G' where
 ex:∀v,iK G v->∃v',iK G' v'/\Agree G.n v v'
 un:∀v v',iK G' v->iK G' v'->Agree G.n v v'->Agree G'.n v v'
 ti:∀i,G.n<i->i<=G'.n->∀v v',PS G' i v->PS G' i v'->Agree G.n v v'->Agree (i - 2) v v'
section
variable {X:Key->Int->Prop} {G G' G'':GS} {v v':Int->Int} {x z a:Int} {k:Key} {D:mY} {L:List Told} {s:Str} {t:Sm}
theorem Pre.sol (p:Pre G G') (h:iK G' v):iK G v:=⟨λx hx=>by rw [<-p.eG x hx];exact h.eG x (hx.mono p.n),λt ht=>h.told t (p.told t ht)⟩
theorem Pre.trans (p:Pre G G') (q:Pre G' G''):Pre G G'':=⟨aB p.n q.n,λx hx=>(q.eG x (hx.mono p.n)).trans (p.eG x hx),λt ht=>q.told t (p.told t ht)⟩
theorem Pre.refl:Pre G G:=⟨bM _,λY Y=>rfl,λY h=>h⟩
theorem Ext.refl:Ext G G:=⟨Pre.refl,λv h=>⟨v,h,λY Y=>rfl⟩,λY Y Y Y h=>h,λi a b=>absurd a (fG.2 b)⟩
theorem Good.ps (g:Good X G) (p:Pre G G') {i:Nat} (hi:G.n<=i) (h:PS G' i v):iK G v:=⟨λx hx=>by rw [<-p.eG x hx];exact h.eG x (hx.mono hi),λt ht=>h.told t (p.told t ht) λx hx=>fH ((g.sc t ht).2 x hx).2 (cZ.2 hi)⟩
theorem Ext.trans (e:Ext G G') (g:Good X G') (f:Ext G' G''):Ext G G'':=⟨e.toPre.trans f.toPre,λv h=>(e.ex v h).elim λw hw=>(f.ex w hw.1).elim λu hu=>⟨u,hu.1,λx hx=>(hw.2 x hx).trans (hu.2 x (hx.mono e.n))⟩,
 λv v' h h' q=>f.un v v' h h' (e.un v v' (f.toPre.sol h) (f.toPre.sol h') q),λi hi hi' v v' h h' q=>(Iu G'.n i).elim
  (λl=>f.ti i l hi' v v' h h' (e.un v v' (g.ps f.toPre (iN l) h) (g.ps f.toPre (iN l) h') q))
  λl=>have m {u:Int->Int} (h:PS G'' i u):PS G' i u:=⟨λx hx=>by rw [<-f.eG x (hx.mono l)];exact h.eG x hx,λt ht=>h.told t (f.told t ht)⟩;e.ti i hi l v v' (m h) (m h') q⟩
theorem yR {g h:Int->Int->Int}:∀l:List (Int×Int),(∀p,p∈l->g p.1 p.2=h p.1 p.2)->S g l=S h l
 | []=>λY=>rfl
 | p::r=>λe=>by show g p.1 p.2+S g r=h p.1 p.2+S h r;rw [e p (cF ..),yR r λq hq=>e q (cX _ hq)]
theorem Pre.b (p:Pre G G') (h:∀p,p∈t.parts->In G.n p.1):G'.bl t=G.bl t/\G'.bh t=G.bh t:=⟨congrArg (t.c+ ·) (yR _ λq hq=>by rw [p.eG _ (h q hq)]),congrArg (t.c+ ·) (yR _ λq hq=>by rw [p.eG _ (h q hq)])⟩
theorem xF.mono (p:Pre G G') (hz:In G.n z) (h:xF G z k):xF G' z k:=by
 unfold xF at h⊢
 cases k with
 | sum t=>exact ⟨λq hq=>(h.1 q hq).mono p.n,by rw [p.eG z hz,h.2,(p.b h.1).1,(p.b h.1).2]⟩
 | dm w x y=>exact ⟨h.1.mono p.n,by rw [p.eG z hz,p.eG x h.1];exact h.2⟩
 | el i a b=>exact ⟨⟨h.1.1.mono p.n,h.1.2.mono p.n⟩,by rw [p.eG z hz,p.eG a h.1.1,p.eG b h.1.2];exact h.2⟩
 | eo i a b=>show tP (G'.eG z)<=_;rw [p.eG z hz];exact h
 | _=>exact (p.eG z hz).trans h
theorem Sm.SY (h:∀p,p∈t.parts->v p.1=v' p.1):t.at v=t.at v':=congrArg (t.c+ ·) (yR _ λq hq=>by rw [h q hq])
noncomputable def upd (v:Int->Int) (z a:Int):Int->Int:=λx=>if x=z then a else v x
theorem Jm:upd v z a z=a:=if_pos rfl
theorem zY:Agree G.n v (upd v G.n a):=λx hx=>(if_neg (nI hx.2)).symm
theorem Yj (hv:G'.vars=G.vars++[(s,D)]) (hx:In G.n x):G'.eG x=G.eG x:=by
 unfold GS.eG
 rw [hv,pU ((vR hx.1).2 hx.2)]
theorem mD (hv:G'.vars=G.vars++[(s,D)]):G'.eG G.n=D:=by
 unfold GS.eG GS.n
 rw [hv,fS,wP (bM _),Nat.sub_self];rfl
theorem sS (hv:G'.vars=G.vars++[(s,D)]):G'.n=G.n+1:=by unfold GS.n;rw [hv,aN];rfl
theorem In.last (h:In (m+1) x):In m x\/x=m:=(cG (Int.lt_add_one_iff.1 h.2)).imp (λl=>⟨h.1,l⟩) id
theorem In.self {m:Nat}:In (m+1) (m:Int):=⟨dL m,mZ m⟩
theorem Pre.add (hv:G'.vars=G.vars++[(s,D)]) (ht:G'.eV=G.eV++L):Pre G G':=⟨by rw [sS hv];exact bJ _,λx hx=>Yj hv hx,λt h=>by rw [ht];exact aL _ h⟩
theorem iK.new (hv:G'.vars=G.vars++[(s,D)]) (ht:G'.eV=G.eV++L) (h:iK G v) (hd:inD D (v G.n)) (hk:∀t,t∈L->t.kept v=true):iK G' v:=⟨λx hx=>by
  rw [sS hv] at hx
  exact hx.last.elim (λhx=>by rw [Yj hv hx];exact h.eG x hx) λe=>by rw [e,mD hv];exact hd,λt m=>by
  rw [ht] at m
  exact (aV.1 m).elim (h.told t) (hk t)⟩
theorem Good.aIx (g:Good X G) (h:iK G v):iK G (upd v G.n a):=⟨λx hx=>by rw [<-zY x hx];exact h.eG x hx,λt ht=>by rw [<-Told.congr λx hx=>zY x ((g.sc t ht).2 x hx)];exact h.told t ht⟩
theorem Good.add (g:Good X G) (hv:G'.vars=G.vars++[(s,D)]) (hm:G'.made=G.made++[(k,(G.n:Int))]) (ht:G'.eV=G.eV++L) (hD:oQ D) (hL:∀t,t∈L->t.ok/\∀x,x∈t.scope->In (G.n+1) x)
  (loc:∀v v',Agree G.n v v'->k.val v=k.val v') (hin:∀v,iK G v->inD D (k.val v)) (hk:∀v,iK G v->inD D (v G.n)->((∀t,t∈L->t.kept v=true)↔v G.n=k.val v)) (kd:xF G' G.n k):Good X G'/\Ext G G'/\∀v,iK G' v->v G.n=k.val v:=by
 have p:Pre G G':= .add hv ht
 have det:∀v,iK G' v->v G.n=k.val v:=λv h=>(hk v (p.sol h) (by have:=h.eG G.n (by rw [sS hv];exact In.self);rwa [mD hv] at this)).1 λt m=>h.told t (by rw [ht];exact aQ _ m)
 refine ⟨⟨λx hx=> ?_,λt m=> ?_,λk' z m=> ?_⟩,⟨p,λv h=>⟨Mine.L.upd v G.n (k.val v),?_,zY⟩,λv v' h h' q x hx=> ?_,λi hi hi' v v' h h' q=> ?_⟩,det⟩
 ·rw [sS hv] at hx
  exact hx.last.elim (λhx=>by rw [p.eG x hx];exact g.dm x hx) λe=>by rw [e,mD hv];exact hD
 ·rw [ht] at m
  exact (aV.1 m).elim (λm=>⟨(g.sc t m).1,λx hx=>((g.sc t m).2 x hx).mono p.n⟩) λm=>⟨(hL t m).1,λx hx=>by rw [sS hv];exact (hL t m).2 x hx⟩
 ·rw [hm] at m
  refine (aV.1 m).elim (λm=>have c:=g.key k' z m;⟨⟨c.1.1.mono p.n,c.1.2.mono p c.1.1⟩,c.2.imp id λc v h=>c v (p.sol h)⟩) λm=> ?_
  have e:=cL (aC.1 m)
  rw [e.1,e.2]
  exact ⟨⟨by rw [sS hv];exact In.self,kd⟩,.inr det⟩
 ·have hu:iK G (Mine.L.upd v G.n (k.val v)):=g.aIx h
  have hd:inD D (Mine.L.upd v G.n (k.val v) G.n):=by rw [Jm];exact hin v h
  exact hu.new hv ht hd ((hk _ hu hd).2 (Jm.trans (loc _ _ zY)))
 ·rw [sS hv] at hx
  exact hx.last.elim (q x) λe=>by rw [e,det v h,det v' h',loc v v' q]
 ·rw [sS hv] at hi'
  exact q.mono (aB (Dq hi' 2) (Bb G.n 1))
theorem Good.found (g:Good X G) (h:G.find k=some z):In G.n z/\xF G z k/\(X k z\/∀v,iK G v->v z=k.val v):=have c:=g.key k z (QY h);⟨c.1.1,c.1.2,c.2⟩
end
structure Step (X:Key->Int->Prop) (G G':GS) (c:Nat):Prop where
 good:Good X G'
 ext:Ext G G'
 room:∀k e,pW G (k+c) e->pW G' k e
 KU:G'.n<=G.n+c
noncomputable def Ib (G:GS) (t:Sm):Int:=ab t.c+S (λx a=>ab a*(tP (G.eG x)+1)) t.parts
structure wE (G:GS) (t:Sm) (B:Int):Prop where
 nd:(keys t.parts).Nodup
 mem:∀p,p∈t.parts->In G.n p.1/\p.2≠0
 Ib:Ib G t<=B
section
variable {X:Key->Int->Prop} {G G' G'':GS} {v:Int->Int} {x z a B C:Int} {k:Key} {D:mY} {M:List Told} {s:Str} {t:Sm} {c d j:Nat}
theorem pW.le {e:Nat} (h:pW G c e) (l:d<=c):pW G d e:=⟨aB (bE l _) h.v,aB (cW (bE (fK _ l) _) e) h.t,h.m⟩
theorem pW.e0 {e:Nat} (h:pW G c e):nU G c:=⟨h.v,aB (aS _ _) h.t,h.m⟩
theorem pW.t2 {e:Nat} (h:pW G c e):G.eV.length<=2000:=aB (aS _ _) (aB (aS _ _) h.t)
theorem pW.tl {e:Nat} (h:pW G c e):G.eV.length<10000:=aX h.t2 (by decide)
theorem Step.refl (g:Good X G) (c:Nat):Step X G G c:=⟨g,Ext.refl,λk e h=>h.le (aS k c),aS _ _⟩
theorem Step.trans (a:Step X G G' c) (b:Step X G' G'' d):Step X G G'' (c+d):=⟨b.good,a.ext.trans a.good b.ext,λk e h=>b.room k e (a.room (k+d) e (by rw [bL,dQ d];exact h)),aB b.KU (by rw [<-bL];exact cW a.KU d)⟩
theorem Step.le (a:Step X G G' c) (h:c<=d):Step X G G' d:=⟨a.good,a.ext,λk e r=>a.room k e (r.le (bE h k)),aB a.KU (bE h _)⟩
theorem AH (hv:G'.vars=G.vars++[(s,D)]) (hm:G'.made=G.made++[(k,(G.n:Int))]) (ht:G'.eV=G.eV++M) (hL:M.length<=20):∀k e,pW G (k+1) e->pW G' k e:=λk e h=>⟨by rw [sS hv,bL,dQ 1];exact h.v,by rw [ht,aN,bL G.eV.length];exact aB (cW (bE (by rw [vP,dQ];exact bE hL _) _) e) h.t,by rw [hm,sS hv,aN];exact bK h.m⟩
theorem DR (D:mY):0<=tP D:=aD (rH _) (cH ..)
theorem kM {a b:Int}:ab a<=b↔ -b<=a/\a<=b:=
 ⟨λh=>⟨tZ (aD (by rw [gI,<-mQ];exact zC) h),aD (by rw [gI];exact zC) h⟩,λh=>by
  unfold ab;split
  ·exact tZ h.1
  ·exact h.2⟩
theorem Tl (a b:Int):ab (a*b)=ab a*ab b:=by rw [gI,gI,gI,Int.natAbs_mul];exact Oc ..
theorem GC {g h:Int->Int->Int}:∀l:List (Int×Int),(∀p,p∈l->g p.1 p.2<=h p.1 p.2)->S g l<=S h l
 | []=>λY=>aW _
 | p::r=>λe=>jU (e p (cF ..)) (GC r λq hq=>e q (cX _ hq))
theorem ZZ {a:Int} (h:0<=z):ab a<=ab a*(z+1):=by rw [uB,yH];exact lL (Dz (rH a) h)
theorem wE.abs (h:wE G t B):S L.TL t.parts<=B:=aD (GC _ λp Y=>ZZ (DR (G.eG p.1))) (aD (lL (rH t.c)) h.Ib)
theorem wE.con (h:wE G t B):ab t.c<=B:=aD (eM (TP (λx a=>Dz (rH a) (wU (DR _) (by decide))) _)) h.Ib
theorem aMl {l:List (Int×Int)}:∀p,p∈l->ab p.2<=S L.TL l:=by
 induction l with
 | nil=>exact λY h=>nomatch h
 | cons q r i=>exact λp h=>(aJ.1 h).elim (λe=>by rw [e];exact eM (TP (λY=>rH) r)) λh=>aD (i p h) (lL (rH _))
theorem wE.YT (h:wE G t B) (p:Int×Int) (m:p∈t.parts):ab p.2<=B:=aD (aMl p m) h.abs
theorem TK {a:Int} (h:a≠0):1<=ab a:=by rw [gI];exact cZ.2 (rV.2 h)
theorem wE.len (h:wE G t B):(t.parts.length:Int)<=B:=aD (dR (motive:=λl=>(∀p,p∈l->p.2≠0)->(l.length:Int)<=S L.TL l) (λY=>aW _) (λp r i m=>by
  show ((r.length+1:Nat):Int)<=ab p.2+S L.TL r
  rw [uW,gL]
  exact jU (TK (m p (cF ..))) (i λq hq=>m q (cX _ hq))) t.parts λp m=>(h.mem p m).2) h.abs
theorem wE.mono (p:Pre G G') (h:wE G t B) (l:B<=C):wE G' t C:=⟨h.nd,λq m=>⟨(h.mem q m).1.mono p.n,(h.mem q m).2⟩,aD (pP (congrArg (ab t.c+ ·) (yR _ λq m=>by rw [p.eG _ (h.mem q m).1]))) (aD h.Ib l)⟩
theorem PC {a l h v:Int} (h1:l<=v) (h2:v<=h):min (a*l) (a*h)<=a*v/\a*v<=max (a*l) (a*h):=by
 rcases lV 0 a with c | c
 ·exact ⟨aD (lP ..) (dW h1 c),aD (dW h2 c) (dJ ..)⟩
 ·exact ⟨aD (tB ..) (uA c h2),aD (uA c h1) (cH ..)⟩
theorem Good.between (g:Good X G) (h:iK G v) (hx:In G.n x):lo (G.eG x)<=v x/\v x<=hi (G.eG x):=(g.dm x hx).le (h.eG x hx)
theorem Good.bounds (g:Good X G) (h:iK G v) (m:∀p,p∈t.parts->In G.n p.1):G.bl t<=t.at v/\t.at v<=G.bh t:=⟨fM (GC _ λp q=>(PC (g.between h (m p q)).1 (g.between h (m p q)).2).1) _,fM (GC _ λp q=>(PC (g.between h (m p q)).1 (g.between h (m p q)).2).2) _⟩
theorem TJ (D:mY):ab (lo D)<=tP D/\ab (hi D)<=tP D:=⟨cH ..,dJ ..⟩
theorem IP (a:Int) (D:mY): -(ab a*(tP D+1))<=min (a*lo D) (a*hi D)/\max (a*lo D) (a*hi D)<=ab a*(tP D+1):=by
 have q {y:Int} (h:ab y<=tP D): -(ab a*(tP D+1))<=a*y/\a*y<=ab a*(tP D+1):=kM.1 (by rw [Tl];exact dW (aD h (eM (by decide))) (rH a))
 have l:=q (TJ D).1
 have h:=q (TJ D).2
 exact ⟨wT.2 ⟨l.1,h.1⟩,gO.2 ⟨l.2,h.2⟩⟩
theorem CW {g:Int->Int->Int}:∀l:List (Int×Int),S (λx a=> -g x a) l= -S g l
 | []=>rfl
 | p::r=>by show -g p.1 p.2+S _ r= -(g p.1 p.2+S g r);rw [CW r,yG]
theorem wE.b (h:wE G t B): -B<=G.bl t/\G.bh t<=B:=
 have c:=kM.1 (aW (ab t.c))
 ⟨aD (jT h.Ib) (by
  unfold L.Ib;rw [yG,<-CW]
  exact jU c.1 (GC _ λp Y=>(IP p.2 (G.eG p.1)).1)),aD (jU c.2 (GC _ λp Y=>(IP p.2 (G.eG p.1)).2)) h.Ib⟩
theorem Nt (G:GS) (t:Sm):G.bl t<=G.bh t:=fM (GC (g:=λx a=>min (a*lo (G.eG x)) (a*hi (G.eG x))) (h:=λx a=>max (a*lo (G.eG x)) (a*hi (G.eG x))) _ λY Y=>aD (lP ..) (cH ..)) _
theorem Qs (h:D≠[]):gS 9 .Bq [.d (eJ D)] (iv (lo D)):=by
 cases D with
 | nil=>exact absurd rfl h
 | cons p r=>exact KE p r
theorem Tx (h:D≠[]):gS 9 .wZ [.d (eJ D)] (iv (hi D)):=by
 cases D with
 | nil=>exact absurd rfl h
 | cons p r=>exact Wu p r
noncomputable abbrev aQq:List Sx:=[
  .asg (.n .tG) (.tup [.bin .mul (.v .mI) (.call .Bq [.met (.xN (.v .bD) .fZ) .jX [.v .kN]]),.bin .mul (.v .mI) (.call .wZ [.met (.xN (.v .bD) .fZ) .jX [.v .kN]])]),
  .qX [.n .dY,.n .cT] [.bin .add (.v .dY) (.blt .DZ [.v .tG]),.bin .add (.v .cT) (.blt .Oi [.v .tG])]]
theorem IX (g:Good X G) (K:Kx) (T:List (Nat×O)) (m:Nat) (va to:V):∀ (Q:List (Int×Int)) (l h:Int) (x a e:V),(∀p,p∈Q->In G.n p.1/\zI p.2)->∃x' a' e',∀j,20<=j->forL (ev j).B (.t [.n .kN,.n .mI]) aQq (Q.map jL) [(.bD,mM),(.dN,va),(.eZ,to),(.dY,iv l),(.cT,iv h),(.kN,x),(.mI,a),(.tG,e)] (cR K G T m)=
  some ((.next,[(.bD,mM),(.dN,va),(.eZ,to),(.dY,iv (l+S (λx a=>min (a*lo (G.eG x)) (a*hi (G.eG x))) Q)),(.cT,iv (h+S (λx a=>max (a*lo (G.eG x)) (a*hi (G.eG x))) Q)),(.kN,x'),(.mI,a'),(.tG,e')]),cR K G T m)
 | []=>λl h x a e Y=>⟨x,a,e,λY Y=>by rw [show l+S _ []=l from cA l,show h+S _ []=h from cA h];rfl⟩
 | p::Q=>λl h x a e hQ=>by
  have hp:=hQ p (cF ..)
  have ne:=(g.dm p.1 hp.1).ne
  have h1:=qH K T m hp.1
  have h2:=vD (a:=p.2) (b:=lo (G.eG p.1)) (st:=cR K G T m) (by rw [hp.2.small];rfl)
  have h3:=vD (a:=p.2) (b:=hi (G.eG p.1)) (st:=cR K G T m) (by rw [hp.2.small];rfl)
  refine (IX g K T m va to Q (l+min (p.2*lo (G.eG p.1)) (p.2*hi (G.eG p.1))) (h+max (p.2*lo (G.eG p.1)) (p.2*hi (G.eG p.1))) (iv p.1) (iv p.2) (.d (.tuple [.int (p.2*lo (G.eG p.1)),.int (p.2*hi (G.eG p.1))])) λq hq=>hQ q (cX _ hq)).elim λx' i=>i.elim λa' i=>i.elim λe' i=>⟨x',a',e',?_⟩
  rw [fT,fT] at i
  exact qU (b:=[(.kN,iv p.1),(.mI,iv p.2)]) rfl (qI [eC h1,eC (Qs ne (cR K G T m)),eP 2 h2,eC h1,eC (Tx ne (cR K G T m)),eP 2 h3] (by kernel_rfl)) i
theorem kF (g:Good X G) (w:Vl) (h:∀p,p∈w.sm.parts->In G.n p.1/\zI p.2):Me 32 .jB [.d w.enc] G (.d (.tuple [.int (G.bl w.sm),.int (G.bh w.sm)])) G 0:=λK T m Y=>
 (IX g K T m (.d w.enc) (.d w.sm.enc) w.sm.parts w.sm.c w.sm.c .un .un .un h).elim λx' i=>i.elim λa' i=>i.elim λe' i=>Run.same rfl [eC (gQ w (cR K G T m)),eF i] (by kernel_rfl)
end
section
variable {X:Key->Int->Prop} {G:GS} {v:Int->Int} {t:Sm} {j:Nat} {B:Int}
theorem Ys (xs ys:List aE) (st:St) (h:xs.length+ys.length<=bW):binOp .add (.d (.list xs)) (.d (.list ys)) st=some (.d (.list (xs++ys)),st):=aY (a:=xs) rfl (aY (a:=ys) rfl (aY (a:=()) (by show dK _ st=_;rw [decide_eq_true h];rfl) rfl))
theorem IU (f:Int×Int->Int) (l:List (Int×Int)) (i:Int) (st:St) (h:l.length<=1000):binOp .add (.d (.list (l.map λp=> .int (f p)))) (.d (.list [.int i])) st=some (.d (.list ((l.map f++[i]).map .int)),st):=by
 rw [cS,dM]
 exact Ys _ _ st (by rw [aI];exact aB (cW h 1) (by decide))
noncomputable def one? (t:Sm):Bool:=match t.parts with
 | [p]=>p.2==1&&t.c==0
 | _=>false
noncomputable abbrev aNl:Ex:= .and [.cmp (.blt .len [.sub (.v .eZ) (.int 1)]) [(.eq,.int 1)],.cmp (.sub (.sub (.sub (.v .eZ) (.int 1)) (.int 0)) (.int 1)) [(.eq,.int 1)],.cmp (.sub (.v .eZ) (.int 2)) [(.eq,.int 0)]]
theorem MV (b:V) (st:St) (h:one? t=false):∀k,12<=k->(ev k).E [(.bD,mM),(.dN,b),(.eZ,.d t.enc),(.dY,.un),(.cT,.un),(.kN,.un),(.eR,.un),(.oN,.un),(.eO,.un)] aNl st=some (bv false,st):=by
 rcases t with ⟨l,i⟩
 cases l with
 | nil=>exact kG [] (by kernel_rfl)
 | cons p r=>
  cases r with
  | cons q r=>exact kG [] (by kernel_rfl)
  | nil=>
   cases e1:p.2==1 with
   | false=>exact kG [eX 10,eP 3 (show nC .eq (iv p.2) (iv 1) st=some (bv false,st) by rw [<-e1];rfl)] (by kernel_rfl)
   | true=>
    have e2:(i==0)=false:=by have h:(p.2==1&&i==0)=false:=h;rwa [e1] at h
    exact kG [eX 3,eP 3 (show nC .eq (iv p.2) (iv 1) st=some (bv true,st) by rw [<-e1];rfl),eP 3 (show nC .eq (iv i) (iv 0) st=some (bv false,st) by rw [<-e2];rfl)] (by kernel_rfl)
theorem aGc (ρ:List (Nm×V)) (l:List (Int×Int)) (st:St):(∀k,6<=k->kL (ev k).E ρ (.v .mI) (.t [.n .tE,.n .mI]) [] (l.map jL) st=some (l.map λp=> .int p.2,st))/\∀k,6<=k->kL (ev k).E ρ (.v .tE) (.t [.n .tE,.n .mI]) [] (l.map jL) st=some (l.map λp=> .int p.1,st):=⟨Ct l λp Y=>⟨_,rfl,kG [] (by kernel_rfl)⟩,Ct l λp Y=>⟨_,rfl,kG [] (by kernel_rfl)⟩⟩
noncomputable def Ff (t:Sm) (n:Int):Told:= .aAy ⟨.eq,t.parts.map fU++[-1],t.parts.map bY++[n],-t.c⟩
theorem Vu (v:Int->Int) (n:Int):∀l:List (Int×Int),dot v (l.map fU++[-1]) (l.map bY++[n])=S (λx a=>a*v x) l - v n
 | []=>by show -1*v n+0=0 - v n;rw [Dx,iE,cA,Bf]
 | p::l=>by show p.2*v p.1+dot v (l.map fU++[-1]) (l.map bY++[n])=p.2*v p.1+S _ l - v n;rw [Vu v n l,rX]
theorem aEc (h:one? t=true):∃x,t=⟨[(x,1)],0⟩:=by
 rcases t with ⟨l,i⟩
 cases l with
 | nil=>exact lH h
 | cons p r=>
  cases r with
  | cons q r=>exact lH h
  | nil=>
   have e:=aM.1 (show (p.2==1&&i==0)=true from h)
   refine ⟨p.1,?_⟩
   rw [<-eq_of_beq e.1,eq_of_beq e.2]
theorem Ht {a B:Int} (h:ab a<=B) (hB:B<=1000):zI a:=aD h (aD hB (by decide))
theorem wF {a b B:Int} (h1: -B<=a) (h2:a<=b) (h3:b<=B) (hB:B<=1000):(∀p:Int×Int,p∈[(a,b)]->zI p.1/\zI p.2)/\oQ [(a,b)]:=⟨λp m=>by rw [aC.1 m];exact ⟨Ht (kM.2 ⟨h1,aD h2 h3⟩) hB,Ht (kM.2 ⟨aD h1 h2,h3⟩) hB⟩,Hx h2 (aD (jT hB) h1) (aD h3 hB)⟩
noncomputable def DJ (t:Sm) (n:Int):List Told:=match t.parts with
 | []=>[]
 | _::_=>[Ff t n]
theorem sum_add (g:Good X G) (o:wE G t B) (hB:B<=60) {s:Str} {G':GS} (hv:G'.vars=G.vars++[(s,[(G.bl t,G.bh t)])]) (hm:G'.made=G.made++[(.sum t,(G.n:Int))]) (ht:G'.eV=G.eV++DJ t G.n):
  Step X G G' 1/\∀v,iK G' v->v G.n=t.at v:=by
 have b:=o.b
 have r:=wF b.1 (Nt G t) b.2 (aD hB (by decide))
 have h1:∀p,p∈t.parts->In G.n p.1:=λp m=>(o.mem p m).1
 have a:=g.add (k:= .sum t) hv hm ht r.2 (λu m=> ?_) (λv v' h=>Sm.SY λp m=>h p.1 (h1 p m)) (λv h=>tC.2 (g.bounds h h1)) (λv h d=> ?_)
  ⟨λp m=>(h1 p m).mono (by rw [sS hv];exact bJ _),by rw [mD hv,((Pre.add hv ht).b h1).1,((Pre.add hv ht).b h1).2]⟩
 ·exact ⟨⟨a.1,a.2.1,AH hv hm ht (by unfold DJ;split<;>exact aP rfl),bT (sS hv)⟩,a.2.2⟩
 ·unfold DJ at m
  split at m
  ·exact nomatch m
  ·rw [aC.1 m]
   refine ⟨⟨?_,λl m=>by rw [aC.1 m];show (t.parts.map fU++[-1]).length=(t.parts.map bY++[(G.n:Int)]).length;rw [aN,aN,aI,aI];rfl⟩,λx hx=>(aV.1 hx).elim (λhx=>(aT.1 hx).elim λp q=>by rw [<-q.2];exact (h1 p q.1).mono (bJ _)) λhx=>by rw [aC.1 hx];exact In.self⟩
   show (t.parts.map bY++[(G.n:Int)]).length<=100
   rw [aN,aI]
   exact aB (bK (cZ.1 (aD o.len hB))) (by decide)
 ·show _↔v G.n=t.c+S (λx a=>a*v x) t.parts
  have d:=tC.1 d
  unfold GS.bl GS.bh at d
  unfold DJ
  split
  ·rename_i e
   rw [e] at d⊢
   exact ⟨λY=>dU d.2 d.1,λY Y m=>nomatch m⟩
  ·have q:(Ff t G.n).kept v=true↔v G.n=t.c+S (λx a=>a*v x) t.parts:=by
    show (dot v (t.parts.map fU++[-1]) (t.parts.map bY++[(G.n:Int)]) - -t.c==0)=true↔_
    rw [Vu,beq_iff_eq,Dw,gL _ t.c,<-rX]
    exact iV.trans eq_comm
   exact ⟨λh=>q.1 (h _ (aC.2 rfl)),λh u m=>by rw [aC.1 m];exact q.2 h⟩
theorem UM {K:Kx} {G1 G2:GS} {T:List (Nat×O)} {m:Nat} {w D:aE} {b c n:Int} {u:Bool} (len:t.parts.length<=1000) (hc:one? t=false) (h1:Run 14 none .lG [.d w] (cR K G T m) (.d t.enc) (cR K G T m)) (h2:Run 32 (some .func) .jB [mM,.d t.enc] (cR K G T m) (.d (.tuple [.int b,.int c])) (cR K G T m))
  (h3:Run 9 none .nL [iv b,iv c] (cR K G T m) (.d D) (cR K G T m)) (h4:Run 36 (some .func) .sD [mM,.d t.enc,.d D] (cR K G T m) (.d (.tuple [.int n,.bool u])) (cR K G1 T m)) (h5:u=true->t.parts≠[]->Run 12 (some .flat) .pE [DA,.d (Ff t n).enc] (cR K G1 T m) (.d .none) (cR K G2 T m)) (h6:u=false\/t.parts=[]->G2=G1):
  Run 60 (some .func) .jV [mM,.d w] (cR K G T m) (iv n) (cR K G2 T m):=by
 have hc:=MV (.d w) (cR K G T m) hc
 cases u with
 | false=>rw [h6 (.inl rfl)];exact Run.same rfl [eC h1,eE hc,eC h2,eC h3,eC h4] (by kernel_rfl)
 | true=>
  rcases t with ⟨l,i⟩
  cases l with
  | nil=>rw [h6 (.inr rfl)];exact Run.same rfl [eC h1,eE hc,eC h2,eC h3,eC h4] (by kernel_rfl)
  | cons q l=>
   have k:=aGc [(.bD,mM),(.dN,.d w),(.eZ,.d (Sm.enc ⟨q::l,i⟩)),(.dY,iv b),(.cT,iv c),(.kN,iv n),(.eR,bv true),(.oN,.un),(.eO,.un)] (q::l) (cR K G1 T m)
   exact Run.same rfl [eC h1,eE hc,eC h2,eC h3,eC h4,eP 3 (HK (y:=jL q) (ys:=l.map jL) (st:=cR K G1 T m)),eK k.1,eP 2 (IU fU (q::l) (-1) (cR K G1 T m) len),eK k.2,eP 2 (IU bY (q::l) n (cR K G1 T m) len),eC (h5 rfl (zV _ _))] (by kernel_rfl)
theorem Run.up {n' n:Nat} {c:Option Cl} {f:Nm} {vs:List V} {st st':St} {v:V} (h:Run n' c f vs st v st') (l:n'<=n):Run n c f vs st v st':=λk hk=>h k (aB l hk)
structure aAa (X:Key->Int->Prop) (G:GS) (y:aE) (t:Sm) (x:Int) (G':GS):Prop where
 run:Me 60 .jV [.d y] G (iv x) G' 0
 step:Step X G G' 1
 mem:In G'.n x
 lo:lo (G'.eG x)=G.bl t
 hi:hi (G'.eG x)=G.bh t
 eq:∀v,iK G' v->v x=t.at v
theorem WR {a b:Int} (h:a<=b):a=0+(min (1*a) (1*b)+0)/\b=0+(max (1*a) (1*b)+0):=by rw [iE,iE,iW h,gC h,cA,cA,fD,fD];exact ⟨rfl,rfl⟩
theorem UN (g:Good X G) {y:aE} {x:Int} (hx:In G.n x) (h1:gS 14 .lG [.d y] (.d (Sm.enc ⟨[(x,1)],0⟩))):aAa X G y ⟨[(x,1)],0⟩ x G:=
 have l:=WR ((g.dm x hx).le (g.dm x hx).QL).1
 ⟨λK T m Y=>Run.same rfl [eC (h1 (cR K G T m))] (by kernel_rfl),.refl g 1,hx,l.1,l.2,λv Y=>by show v x=0+(1*v x+0);rw [fD,cA,iE]⟩
section
variable {y:aE} {z:Int} {G':GS} (g:Good X G) (o:wE G t B) (hB:B<=60) (e:one? t=false) (h1:gS 14 .lG [.d y] (.d t.enc))
include g o hB e h1
theorem MU {G1:GS} {u:Bool} {n:Int} (h4:Me 36 .sD [.d t.enc,.d (eJ [(G.bl t,G.bh t)])] G (.d (.tuple [.int n,.bool u])) G1 0) (h5:u=true->t.parts≠[]->∀K T m,Run 12 (some .flat) .pE [DA,.d (Ff t n).enc] (cR K G1 T m) (.d .none) (cR K G' T m)) (h6:u=false\/t.parts=[]->G'=G1):Me 60 .jV [.d y] G (iv n) G' 0:=λK T m hO=>
 UM (aB (cZ.1 (aD o.len hB)) (by decide)) e (h1 _) (kF g (.s t) (λp m=>⟨(o.mem p m).1,Ht (o.YT p m) (aD hB (by decide))⟩) K T m hO) (rZ (Nt G t) _) (h4 K T m hO) (λa b=>h5 a b K T m) h6
theorem UO (nX:∀z,¬X (.sum t) z) (hf:G.find (.sum t)=some z):aAa X G y t z G:=
 have f:=g.found hf
 ⟨MU g o hB e h1 (λK T m hO=>(Qy hf K T m hO).up (by decide)) (λh=>lH h) λY=>rfl,.refl g 1,f.1,by rw [f.2.1.2];rfl,by rw [f.2.1.2];rfl,f.2.2.resolve_left (nX z)⟩
theorem GF (hf:G.find (.sum t)=none) (R:nU G 1) (hv:G'.vars=G.vars++[(pL G.n,[(G.bl t,G.bh t)])]) (hm:G'.made=G.made++[(.sum t,(G.n:Int))]) (ht:G'.eV=G.eV++DJ t G.n)
  (h5:t.parts≠[]->∀K T m,Run 12 (some .flat) .pE [DA,.d (Ff t G.n).enc] (cR K (G.add (.sum t) [(G.bl t,G.bh t)]) T m) (.d .none) (cR K G' T m)) (h6:t.parts=[]->G'=G.add (.sum t) [(G.bl t,G.bh t)]):aAa X G y t G.n G':=
 have a:=sum_add g o hB hv hm ht
 ⟨MU g o hB e h1 (Qz hf (wF o.b.1 (Nt G t) o.b.2 (aD hB (by decide))).1 R) (λY=>h5) λq=>h6 (q.resolve_left nofun),a.1,by rw [sS hv];exact In.self,by rw [mD hv];rfl,by rw [mD hv];rfl,a.2⟩
end
theorem Ho (g:Good X G) (nX:∀z,¬X (.sum t) z) {y:aE} (h1:gS 14 .lG [.d y] (.d t.enc)) (o:wE G t B) (hB:B<=60) (R:nU G (j+1)):∃x G',aAa X G y t x G':=by
 cases e:one? t with
 | true=>
  obtain ⟨x,rfl⟩:=aEc e
  exact ⟨x,G,UN g (o.mem (x,1) (.head _)).1 h1⟩
 | false=>
  cases hf:G.find (.sum t) with
  | some z=>exact ⟨z,G,UO g o hB e h1 nX hf⟩
  | none=>
   have R:=R.le (fN 1 j)
   by_cases q:t.parts=[]
   ·exact ⟨G.n,_,GF g o hB e h1 hf R (G':=G.add (.sum t) [(G.bl t,G.bh t)]) rfl rfl (by unfold DJ;rw [q,cN];rfl) (λn=>absurd q n) λY=>rfl⟩
   ·exact ⟨G.n,_,GF g o hB e h1 hf R (G':=(G.add (.sum t) [(G.bl t,G.bh t)]).gB (Ff t G.n)) rfl rfl (by unfold DJ;split<;>first | contradiction | rfl) (λY K T m=>Aa K T m _ R.tl) λn=>absurd n q⟩
end
inductive Rw where
 | b (w:Bool)
 | l (q:Au)
noncomputable def Rw.ctorIdx (x:Rw):Nat:=Rw.casesOn x (λY=>0) (λY=>1)
noncomputable def Rw.enc:Rw->aE
 | .b w=> .bool w
 | .l q=>q.enc
section
variable {K:Kx} {G:GS} {T:List (Nat×O)} {m:Nat} {y:aE} {t:Sm} {b c g:Int} {k:Kd}
theorem Yn (ρ:List (Nm×V)) (l:List (Int×Int)) (st:St):(∀k,6<=k->kL (ev k).E ρ (.v .mI) (.t [.n .kN,.n .mI]) [] (l.map jL) st=some ((l.map fU).map .int,st))/\∀k,6<=k->kL (ev k).E ρ (.v .kN) (.t [.n .kN,.n .mI]) [] (l.map jL) st=some ((l.map bY).map .int,st):=by
 rw [dM,dM]
 exact ⟨Ct l λp Y=>⟨_,rfl,kG [] (by kernel_rfl)⟩,Ct l λp Y=>⟨_,rfl,kG [] (by kernel_rfl)⟩⟩
noncomputable def Kd.neg (k:Kd):Bool:=match k with
 | .ne=>true
 | _=>false
section
variable (h1:Run 32 (some .func) .jB [mM,.d y] (cR K G T m) (.d (.tuple [.int b,.int c])) (cR K G T m)) (h2:Run 14 none .lG [.d y] (cR K G T m) (.d t.enc) (cR K G T m))
include h1 h2
theorem aJu (e:decide (c<=0)=true):Run 60 (some .func) .gW [mM,.d Kd.le.s,.d y] (cR K G T m) (bv true) (cR K G T m):=Run.same rfl [eC h1,eC h2,eX 3,eQ (cR K G T m) e,eQ (cR K G T m) e] (by kernel_rfl)
theorem aJt (e1:decide (c<=0)=false) (e2:decide (b>0)=true):Run 60 (some .func) .gW [mM,.d Kd.le.s,.d y] (cR K G T m) (bv false) (cR K G T m):=Run.same rfl [eC h1,eC h2,eX 3,eQ (cR K G T m) e1,eQ (cR K G T m) e2,eQ (cR K G T m) e1] (by kernel_rfl)
theorem aJs (hk:k≠ .le) (e1:decide (b>0)=true):Run 60 (some .func) .gW [mM,.d k.s,.d y] (cR K G T m) (bv k.neg) (cR K G T m):=by
 cases k<;>first | exact absurd rfl hk | exact Run.same rfl [eC h1,eC h2,eX 3,eQ (cR K G T m) e1] (by kernel_rfl)
theorem aJr (hk:k≠ .le) (e1:decide (b>0)=false) (e2:decide (c<0)=true):Run 60 (some .func) .gW [mM,.d k.s,.d y] (cR K G T m) (bv k.neg) (cR K G T m):=by
 cases k<;>first | exact absurd rfl hk | exact Run.same rfl [eC h1,eC h2,eX 3,eQ (cR K G T m) e1,eQ (cR K G T m) e2] (by kernel_rfl)
theorem aJq (hk:k≠ .le) (e1:decide (b>0)=false) (e2:decide (c<0)=false) (e3:(b==c)=true):Run 60 (some .func) .gW [mM,.d k.s,.d y] (cR K G T m) (bv !k.neg) (cR K G T m):=by
 cases k<;>first | exact absurd rfl hk | exact Run.same rfl [eC h1,eC h2,eX 3,eQ (cR K G T m) e1,eQ (cR K G T m) e2,eQ (cR K G T m) e3] (by kernel_rfl)
end
noncomputable abbrev OB (k y t:aE) (b c:Int) (g h:V):List (Nm×V):=[(.bD,mM),(.mH,.d k),(.dN,.d y),(.dY,iv b),(.cT,iv c),(.eZ,.d t),(.xC,g),(.Br,h)]
theorem BU {z:aE} {h:V} (st:St) (hg:g≠0) (hs:zI g) (l:List (Int×Int)):∀j,8<=j->kL (ev j).E (OB z y t.enc b c (iv g) h) (.bin .fdiv (.v .mI) (.v .xC)) (.t [.n .kN,.n .mI]) [] (l.map jL) st=some ((l.map λp=>p.2.fdiv g).map .int,st):=by
 rw [dM]
 exact Ct l λp Y=>⟨_,rfl,kG [eP 2 (Fw (a:=p.2) (b:=g) (st:=st) (by rw [decide_eq_true hg,hs.small];rfl))] (by kernel_rfl)⟩
section
variable (h1:Run 32 (some .func) .jB [mM,.d y] (cR K G T m) (.d (.tuple [.int b,.int c])) (cR K G T m)) (h2:Run 14 none .lG [.d y] (cR K G T m) (.d t.enc) (cR K G T m))
 (hg:Run 20 none .yO [.d (.list ((t.parts.map fU).map .int))] (cR K G T m) (iv g) (cR K G T m)) (g0:g≠0) (gs:zI g)
include h1 h2 hg g0 gs
theorem aDp (e1:decide (c<=0)=false) (e2:decide (b>0)=false):Run 60 (some .func) .gW [mM,.d Kd.le.s,.d y] (cR K G T m) (.d (Au.enc ⟨.le,t.parts.map λp=>p.2.fdiv g,t.parts.map bY,(-t.c).fdiv g⟩)) (cR K G T m):=
 have q:=Yn (OB Kd.le.s y t.enc b c .un .un) t.parts (cR K G T m)
 have q2:=Yn (OB Kd.le.s y t.enc b c (iv g) (iv (-t.c))) t.parts (cR K G T m)
 Run.same rfl [eC h1,eC h2,eX 3,eQ (cR K G T m) e1,eQ (cR K G T m) e2,eK q.1,eC hg,eK (BU (y:=y) (t:=t) (b:=b) (c:=c) (z:=Kd.le.s) (h:=iv (-t.c)) (cR K G T m) g0 gs t.parts),eK q2.2,eP 2 (Fw (a:= -t.c) (b:=g) (st:=cR K G T m) (by rw [decide_eq_true g0,gs.small];rfl))] (by kernel_rfl)
theorem aDo (hk:k≠ .le) (e1:decide (b>0)=false) (e2:decide (c<0)=false) (e3:(b==c)=false):((-t.c).fmod g==0)=false/\Run 60 (some .func) .gW [mM,.d k.s,.d y] (cR K G T m) (bv k.neg) (cR K G T m)\/
  ((-t.c).fmod g==0)=true/\Run 60 (some .func) .gW [mM,.d k.s,.d y] (cR K G T m) (.d (Au.enc ⟨k,t.parts.map λp=>p.2.fdiv g,t.parts.map bY,(-t.c).fdiv g⟩)) (cR K G T m):=by
 have q:=Yn (OB k.s y t.enc b c .un .un) t.parts (cR K G T m)
 have q2:=Yn (OB k.s y t.enc b c (iv g) (iv (-t.c))) t.parts (cR K G T m)
 have d:=BU (y:=y) (t:=t) (b:=b) (c:=c) (z:=k.s) (h:=iv (-t.c)) (cR K G T m) g0 gs t.parts
 have a:=Fw (a:= -t.c) (b:=g) (st:=cR K G T m) (by rw [decide_eq_true g0,gs.small];rfl)
 have r:=Xo (a:= -t.c) (b:=g) (st:=cR K G T m) (decide_eq_true g0)
 revert q q2 d
 cases e:(-t.c).fmod g==0 with
 | true=>
  refine λq q2 d=> .inr ⟨rfl,?_⟩
  have e:(!((-t.c).fmod g==0))=false:=by rw [e];rfl
  cases k with
  | le=>exact absurd rfl hk
  | ne=>exact Run.same rfl [eC h1,eC h2,eX 3,eQ (cR K G T m) e1,eQ (cR K G T m) e2,eQ (cR K G T m) e3,eK q.1,eC hg,eX 3,eP 2 r,eQ (cR K G T m) e,eK d,eK q2.2,eP 2 a] (by kernel_rfl)
  | eq=>exact Run.same rfl [eC h1,eC h2,eX 3,eQ (cR K G T m) e1,eQ (cR K G T m) e2,eQ (cR K G T m) e3,eK q.1,eC hg,eX 3,eP 2 r,eQ (cR K G T m) e,eK d,eK q2.2,eP 2 a] (by kernel_rfl)
 | false=>
  refine λq q2 d=> .inl ⟨rfl,?_⟩
  have e:(!((-t.c).fmod g==0))=true:=by rw [e];rfl
  cases k with
  | le=>exact absurd rfl hk
  | ne=>exact Run.same rfl [eC h1,eC h2,eX 3,eQ (cR K G T m) e1,eQ (cR K G T m) e2,eQ (cR K G T m) e3,eK q.1,eC hg,eX 3,eP 2 r,eQ (cR K G T m) e] (by kernel_rfl)
  | eq=>exact Run.same rfl [eC h1,eC h2,eX 3,eQ (cR K G T m) e1,eQ (cR K G T m) e2,eQ (cR K G T m) e3,eK q.1,eC hg,eX 3,eP 2 r,eQ (cR K G T m) e] (by kernel_rfl)
end
end
noncomputable def aPc (q:Au) (x:Int):Prop:=∀v v':Int->Int,v x=0->v' x=1->q.kept v≠q.kept v'
structure aMp (G:GS) (k:Kd) (t:Sm) (q:Au):Prop where
 kd:q.k=k
 xs:q.xs=keys t.parts
 len:q.cs.length=q.xs.length
 nz:∀a,a∈q.cs->a≠0
 ne:q.cs≠[]
 eq:∀v,q.kept v=k.rel (t.at v)
 fit:∀x,q.xs=[x]->G.eG x=jI->aPc q x
structure aHn (G:GS) (y:aE) (k:Kd) (t:Sm) (r:Rw):Prop where
 run:Me 60 .gW [.d k.s,.d y] G (.d r.enc) G 0
 b:∀w,r= .b w->∀v,iK G v->k.rel (t.at v)=w
 l:∀q,r= .l q->aMp G k t q
section
variable {g n q a c:Int} {v:Int->Int}
theorem aFq (h:a∣c) (n:c≠0):a.natAbs<=c.natAbs:=Nat.le_of_dvd (rV.2 n) (Int.natAbs_dvd_natAbs.2 h)
theorem Sn (hg:g≠0) (h:g∣a):g*a.fdiv g=a:=by
 obtain ⟨q,rfl⟩:=h
 rw [Int.mul_fdiv_cancel_left q hg]
theorem Yi (hg:g≠0):∀l:List (Int×Int),(∀p,p∈l->g∣p.2)->S (λx a=>a*v x) l=g*dot v (l.map λp=>p.2.fdiv g) (l.map bY)
 | []=>λY=>(rW g).symm
 | p::l=>λh=>by
  show p.2*v p.1+S _ l=g*(p.2.fdiv g*v p.1+dot v (l.map λp=>p.2.fdiv g) (l.map bY))
  rw [uB,<-Gs,Sn hg (h p (.head _)),Yi hg l λq m=>h q (.tail _ m)]
theorem aDv (hg:0<g):decide (q - (-c).fdiv g<=0)=decide (c+g*q<=0):=by
 have h:q<=(-c).fdiv g↔q*g<= -c:=by rw [oY _ (dA hg)];exact Int.le_ediv_iff_mul_le hg
 rw [Int.mul_comm] at h
 exact decide_eq_decide.2 ⟨λe=>vS.2 (h.1 (gP e)),λe=>fV (h.2 (vS.1 e))⟩
theorem OF (hg:g≠0) (h:((-c).fmod g==0)=true):(q - (-c).fdiv g==0)=(c+g*q==0):=by
 have d:=Sn hg (rA (eq_of_beq h))
 rw [iX,beq_iff_eq,beq_iff_eq]
 refine ⟨λe=> ?_,λe=> ?_⟩
 ·rw [show q=(-c).fdiv g from Int.eq_of_sub_eq_zero e,d,Ji]
 ·rw [xY hg (show g*q=g*(-c).fdiv g by rw [d];exact (xX e).symm),Int.sub_self]
theorem aDu (h:((-c).fmod g==0)=false):(c+g*q==0)=false:=xM λe=>lH (h.symm.trans (beq_iff_eq.2 (by rw [show -c=g*q from xX e,Int.mul_fmod_right])))
theorem zero_or (h1:c+min (a*0) (a*1)<=0) (h2:0<=c+max (a*0) (a*1)) (h:a∣c):c=0\/c+a=0:=by
 rw [rW,yH] at h1 h2
 rcases lV 0 a with l | l
 ·rw [iW l,cA] at h1
  rw [gC l] at h2
  exact (cG h2).imp (λp=>dU h1 (wS (by rw [fD];exact Int.le_of_dvd p (Int.dvd_add h (Int.dvd_refl a))))) Jj
 ·rw [jG l] at h1
  rw [lQ l,cA] at h2
  exact (cG h2).symm.imp Jj λp=>dU h1 (by have q:=bQ (Int.le_of_dvd p (Int.neg_dvd.2 h)) a;rwa [Int.add_left_neg] at q)
theorem WZ (h1:c+min (a*0) (a*1)<=0) (h2:0<c+max (a*0) (a*1)):Kd.rel .le c≠Kd.rel .le (c+a):=λe=>by
 have e:=decide_eq_decide.1 e
 rw [rW,yH] at h1 h2
 rcases lV 0 a with l | l
 ·rw [iW l,cA] at h1
  rw [gC l] at h2
  exact iA.2 h2 (e.1 h1)
 ·rw [jG l] at h1
  rw [lQ l,cA] at h2
  exact iA.2 h2 (e.2 h1)
theorem HL {k:Kd} (ha:a≠0) (h:c=0\/c+a=0) (hk:k≠ .le):k.rel c≠k.rel (c+a):=by
 have q:(c==0)≠(c+a==0):=λe=>by
  rw [iX,beq_iff_eq,beq_iff_eq] at e
  exact h.elim (λh=>ha (by have q:=e.1 h;rwa [h,fD] at q)) λh'=>ha (by rwa [e.2 h',fD] at h')
 cases k with
 | le=>exact absurd rfl hk
 | ne=>exact λe=>q (Bool.not_inj e)
 | eq=>exact q
end
section
variable {X:Key->Int->Prop} {G:GS} {y:aE} {t:Sm} {B:Int} {k:Kd}
noncomputable def NT (k:Kd) (b d c g:Int):Prop:=match k with
 | .le=>b<=0/\0<d
 | _=>(b<=0/\0<=d)/\((-c).fmod g==0)=true
theorem II {l:List (Int×Int)} (h:∀p,p∈l->p.2≠0) (ne:l≠[]):((Ue 0 (l.map fU):Nat):Int)≠0:=λe=>by
 cases l with
 | nil=>exact ne rfl
 | cons p l=>
  have d:=(Ey ((p::l).map fU) 0).2 p.2 (.head _)
  rw [e] at d
  exact h p (.head _) (Int.zero_dvd.1 d)
theorem YA {c a g:Int} (ha:a≠0) (h:NT k (c+(min (a*0) (a*1)+0)) (c+(max (a*0) (a*1)+0)) c g) (e:a.natAbs=g):k.rel c≠k.rel (c+a):=by
 have d (h:((-c).fmod g==0)=true):a∣c:=Int.dvd_neg.1 (Int.natAbs_dvd.1 (by rw [e];exact rA (eq_of_beq h)))
 rw [cA,cA] at h
 cases k with
 | le=>exact WZ h.1 h.2
 | ne=>exact HL ha (zero_or h.1.1 h.1.2 (d h.2)) nofun
 | eq=>exact HL ha (zero_or h.1.1 h.1.2 (d h.2)) nofun
theorem PR (o:wE G t B) (ne:t.parts≠[]) {g:Int} (e:((Ue 0 (t.parts.map fU):Nat):Int)=g) (h:NT k (G.bl t) (G.bh t) t.c g):aMp G k t ⟨k,t.parts.map λp=>p.2.fdiv g,t.parts.map bY,(-t.c).fdiv g⟩:=by
 have g0:g≠0:=e▸II (λp m=>(o.mem p m).2) ne
 have gp:0<g:=by rw [<-e];exact Ob.2 (Hf λz=>g0 (by rw [<-e,z];rfl))
 have dv:∀p,p∈t.parts->g∣p.2:=λp m=>by rw [<-e];exact (Ey _ 0).2 p.2 (aT.2 ⟨p,m,rfl⟩)
 have eq:∀v,Au.kept v ⟨k,t.parts.map λp=>p.2.fdiv g,t.parts.map bY,(-t.c).fdiv g⟩=k.rel (t.at v):=λv=>by
  unfold Au.kept Sm.at
  rw [Yi g0 t.parts dv]
  cases k with
  | le=>exact aDv gp
  | ne=>exact congrArg not (OF g0 h.2)
  | eq=>exact OF g0 h.2
 refine ⟨rfl,rfl,by rw [aI,aI],λa m=>(aT.1 m).elim λp q=>λz=>(o.mem p q.1).2 ?_,λz=>ne (vI.1 z),eq,λx hx hd v v' h0 h1=> ?_⟩
 ·rw [<-Sn g0 (dv p q.1),q.2,z,rW]
 ·rw [eq,eq]
  rcases t with ⟨l,c⟩
  cases l with
  | nil=>exact absurd rfl ne
  | cons p r=>
   have hx:=fR (show p.1::r.map bY=[x] from hx)
   rw [vI.1 hx.2] at o h e⊢
   have hl:lo (G.eG p.1)=0/\hi (G.eG p.1)=1:=by rw [hx.1,hd];exact ⟨rfl,rfl⟩
   have hb:G.bl ⟨[p],c⟩=c+(min (p.2*lo (G.eG p.1)) (p.2*hi (G.eG p.1))+0)/\G.bh ⟨[p],c⟩=c+(max (p.2*lo (G.eG p.1)) (p.2*hi (G.eG p.1))+0):=⟨rfl,rfl⟩
   rw [hb.1,hb.2,hl.1,hl.2] at h
   show k.rel (c+(p.2*v p.1+0))≠k.rel (c+(p.2*v' p.1+0))
   rw [hx.1,h0,h1,rW,yH,cA,cA,cA]
   exact YA (o.mem p (.head _)).2 h (by rw [<-e];exact congrArg Int.ofNat (Hg _).symm)
theorem Ou (hk:k≠ .le) (z:Int):k.rel z=((z==0) != k.neg):=by
 cases k with
 | le=>exact absurd rfl hk
 | ne=>show (!(z==0))=_;cases z==0<;>rfl
 | eq=>show (z==0)=_;cases z==0<;>rfl
theorem Ww (g:Good X G) (h1:gS 14 .lG [.d y] (.d t.enc)) (hb:Me 32 .jB [.d y] G (.d (.tuple [.int (G.bl t),.int (G.bh t)])) G 0) (o:wE G t B) (hB:B<=60):∃r,aHn G y k t r:=by
 have sm:∀p,p∈t.parts->In G.n p.1:=λp m=>(o.mem p m).1
 have bl {w:Bool} (h:∀K T m,Ok T m->Run 60 (some .func) .gW [mM,.d k.s,.d y] (cR K G T m) (bv w) (cR K G T m)) (q:∀z,G.bl t<=z->z<=G.bh t->k.rel z=w):∃r,aHn G y k t r:=⟨.b w,h,λu e v s=>by cases e;exact q _ (g.bounds s sm).1 (g.bounds s sm).2,nofun⟩
 have no {l h:Int} (q:l>0\/h<0) (z:Int) (a:l<=z) (b:z<=h):(z==0)=false:=xM λe=>q.elim (λq=>by rw [e] at a;exact iA.2 q a) λq=>by rw [e] at b;exact iA.2 q b
 have cf:∀x,x∈t.parts.map fU->x≠0/\zI x:=λx m=>(aT.1 m).elim λp q=>by rw [<-q.2];exact ⟨(o.mem p q.1).2,Ht (o.YT p q.1) (aD hB (by decide))⟩
 have hg:=Ty _ cf
 have gs:t.parts≠[]->((Ue 0 (t.parts.map fU):Nat):Int)≠0/\zI (Ue 0 (t.parts.map fU):Nat):=λne=>⟨II (λp m=>(o.mem p m).2) ne,by
  obtain ⟨p,r,e⟩:=lF ne
  have m:p.2∈t.parts.map fU:=by rw [e];exact .head _
  rw [zI,gI]
  exact aD (cZ.2 (aFq ((Ey _ 0).2 _ m) (cf _ m).1)) (by rw [<-gI];exact (cf _ m).2)⟩
 have ne (h:¬ (G.bl t=t.c/\G.bh t=t.c)):t.parts≠[]:=λe=>h (by unfold GS.bl GS.bh;rw [e];exact ⟨cA _,cA _⟩)
 by_cases hk:k= .le
 ·subst hk
  cases e1:decide (G.bh t<=0) with
  | true=>exact bl (λK T m hO=>aJu (hb K T m hO) (h1 _) e1) λz Y b=>decide_eq_true (aD b (of_decide_eq_true e1))
  | false=>
   cases e2:decide (G.bl t>0) with
   | true=>exact bl (λK T m hO=>aJt (hb K T m hO) (h1 _) e1 e2) λz a Y=>decide_eq_false (iA.2 (fH (of_decide_eq_true e2) a))
   | false=>
    have u:=iA.1 (of_decide_eq_false e1)
    have l:=dD.1 (of_decide_eq_false e2)
    have n:=ne λh=>iA.2 u (by rw [h.2,<-h.1];exact l)
    exact ⟨.l _,λK T m hO=>aDp (hb K T m hO) (h1 _) (hg _) (gs n).1 (gs n).2 e1 e2,nofun,λq e=>by cases e;exact PR o n rfl ⟨l,u⟩⟩
 ·cases e1:decide (G.bl t>0) with
  | true=>exact bl (λK T m hO=>aJs (hb K T m hO) (h1 _) hk e1) λz a b=>by rw [Ou hk,no (.inl (of_decide_eq_true e1)) z a b];exact wW _
  | false=>
   cases e2:decide (G.bh t<0) with
   | true=>exact bl (λK T m hO=>aJr (hb K T m hO) (h1 _) hk e1 e2) λz a b=>by rw [Ou hk,no (.inr (of_decide_eq_true e2)) z a b];exact wW _
   | false=>
    have l:=dD.1 (of_decide_eq_false e1)
    have u:=dD.1 (of_decide_eq_false e2)
    cases e3:G.bl t==G.bh t with
    | true=>
     refine bl (λK T m hO=>aJq (hb K T m hO) (h1 _) hk e1 e2 e3) λz a b=> ?_
     have e:=eq_of_beq e3
     rw [Ou hk,show (z==0)=true from beq_iff_eq.2 (dU (aD b (by rw [<-e];exact l)) (aD u (by rw [<-e];exact a)))]
     exact Bool.true_bne _
    | false=>
     have n:=ne λh=>lH (e3.symm.trans (beq_iff_eq.2 (h.1.trans h.2.symm)))
     have row (K T m) (hO:Ok T m):=aDo (k:=k) (hb K T m hO) (h1 _) (hg _) (gs n).1 (gs n).2 hk e1 e2 e3
     cases e4:(-t.c).fmod ((Ue 0 (t.parts.map fU):Nat):Int)==0 with
     | true=>exact ⟨.l _,λK T m hO=>((row K T m hO).resolve_left λh=>lH (h.1.symm.trans e4)).2,nofun,λq e=>by cases e;exact PR o n rfl (by cases k<;>first | exact absurd rfl hk | exact ⟨⟨l,u⟩,e4⟩)⟩
     | false=>
      refine ⟨.b k.neg,λK T m hO=>((row K T m hO).resolve_right λh=>lH (e4.symm.trans h.1)).2,λw e v s=> ?_,nofun⟩
      cases e
      have d:=Yi (v:=v) (gs n).1 t.parts λp m=>(Ey _ 0).2 p.2 (aT.2 ⟨p,m,rfl⟩)
      unfold Sm.at
      rw [Ou hk,d,aDu e4];exact wW _
end
noncomputable def X0:Key->Int->Prop:=λY Y=>False
theorem aBj {P:Prop} (h:∀G:Prop,(P->G)->G):P:=h P id
theorem tf {P:Prop} (b:Bool) (h:b=true->P) (k:b=false->P):P:=by
 cases b with
 | true=>exact h rfl
 | false=>exact k rfl
noncomputable def GS.sT (G:GS) (L:List Told):GS:={G with eV:=G.eV++L}
structure xR (G:GS) (k:Key) (D:mY) (L:List Told) (z:Int) (u:Bool) (G1 G':GS):Prop where
 run:Me 36 .sD [.d k.enc,.d (eJ D)] G (.d (.tuple [.int z,.bool u])) G1 0
 new:u=true->G'=G1.sT L/\G1.eV.length<=2000
 old:u=false->G'=G1
 fresh:u=true->z=G.n
 step:Step X0 G G' 1
 mem:In G'.n z
 eG:xF G' z k
 eq:∀v,iK G' v->v z=k.val v
section
variable {G G' G1:GS} {k:Key} {D:mY} {t:Told} {z:Int} {j:Nat} {L:List Told}
theorem Qu (R:nU G (j+1)):nU G 1:=R.le (fN 1 j)
theorem yJ (g:Good X0 G) (told:Int->List Told) (R:nU G (j+1)) (hD:oQ D) (l20:(told G.n).length<=20) (hL:∀t,t∈told G.n->t.ok/\∀x,x∈t.scope->In (G.n+1) x) (loc:∀v v',Agree G.n v v'->k.val v=k.val v') (hin:∀v,iK G v->inD D (k.val v))
  (hk:∀v,iK G v->inD D (v G.n)->((∀t,t∈told G.n->t.kept v=true)↔v G.n=k.val v)) (kd:xF ((G.add k D).sT (told G.n)) G.n k):∃z u G1 G',xR G k D (told z) z u G1 G':=by
 cases hf:G.find k with
 | some z=>
  have f:=g.found hf
  exact ⟨z,false,G,G,λK T m hO=>(Qy hf K T m hO).up (by decide),nofun,λY=>rfl,nofun,.refl g 1,f.1,f.2.1,f.2.2.resolve_left id⟩
 | none=>
  have sm:∀p,p∈D->zI p.1/\zI p.2:=λp m=>by
   have a:=Ss hD.ok p m
   have b:=(tJ hD.ok ⟨p,m,aW _,a⟩).1
   have c:=(tJ hD.ok ⟨p,m,a,aW _⟩).2
   exact (wF (B:=1000) b a (aD c hD.hi) (aW _)).1 p (.head _)
  have a:=g.add (G':=(G.add k D).sT (told G.n)) rfl rfl rfl hD hL loc hin hk kd
  exact ⟨G.n,true,_,_,Qz hf sm (Qu R),λY=>⟨rfl,R.t2⟩,nofun,λY=>rfl,⟨a.1,a.2.1,AH rfl rfl rfl l20,bT (sS rfl)⟩,by rw [sS rfl];exact In.self,kd,a.2.2⟩
theorem zD {p:Told->Prop} (h:p t):∀u,u∈[t]->p u:=λu m=>by rw [aC.1 m];exact h
theorem Bm {v:Int->Int}:(∀u,u∈[t]->u.kept v=true)↔t.kept v=true:=⟨λh=>h t (.head _),λh=>zD h⟩
theorem xR.post (h:xR G k D [t] z true G1 G') (K:Kx) (T:List (Nat×O)) (m:Nat):Run 12 (some .flat) .pE [DA,.d t.enc] (cR K G1 T m) (.d .none) (cR K G' T m):=by
 rw [(h.new rfl).1]
 exact Aa K T m t (aX (h.new rfl).2 (by decide))
end
noncomputable def nR (G:GS):Tr->Prop
 | .b _=>True
 | .bit x _=>In G.n x/\G.eG x=jI
structure Tm (G:GS) (n:Nat) (f:Nm) (vs:List V) (t:Tr) (G':GS) (d c:Nat) (A:(Int->Int)->Bool):Prop where
 run:Me n f vs G (.d t.enc) G' d
 step:Step X0 G G' c
 ok:nR G' t
 eq:∀v,iK G' v->t.at v=A v
section
variable {G G' G1:GS} {l:Au} {t:Tr} {z x:Int} {j n c d:Nat} {v:Int->Int} {K:Kx} {T:List (Nat×O)} {m:Nat} {y:aE} {A:(Int->Int)->Bool} {f:Nm} {vs:List V}
theorem nR.no (h:nR G t):nR G t.no:=by cases t<;>exact h
theorem nR.mono (p:Pre G G') (h:nR G t):nR G' t:=by
 cases t with
 | b w=>exact trivial
 | bit x u=>exact ⟨h.1.mono p.n,(p.eG x h.1).trans h.2⟩
theorem Tr.xO:t.no.at v= !(t.at v):=by
 cases t with
 | b w=>rfl
 | bit x u=>show ((v x==1)== !u)= !((v x==1)==u);cases (v x==1)<;>cases u<;>rfl
theorem Tb (g:nR G (.bit x true)) (s:iK G v):v x=0\/v x=1:=Hq.1 (by have:=s.eG x g.1;rwa [g.2] at this)
theorem FY {a:Int} {b:Bool} (h:a=0\/a=1):(a==1)=b↔a=b2i b:=by rcases h with rfl | rfl<;>cases b<;>decide
theorem Pi (b u:Bool):((b2i b==1)==u)=(b==u):=by cases b<;>rfl
theorem Tf (b:Bool):inD jI (b2i b):=Hq.2 (by cases b;exact .inl rfl;exact .inr rfl)
noncomputable def IA (cs:List Int):Bool:=match cs with
 | [a]=>a==1
 | _=>false
theorem aFn (cs:List Int) (st:St):nC .eq (.d (qV cs)) (.d (.tuple [.int 1])) st=some (bv (IA cs),st):=aY (a:=qV cs) rfl (aY (a:= .tuple [.int 1]) rfl (aY (a:=()) (by unfold Xd;rw [decide_eq_true (aB (gT ..) (by decide))];rfl) (by
 rcases cs with _ | ⟨a,_ | ⟨b,r⟩⟩
 ·rfl
 ·show some (V.d (.bool ((a==1)&&true)),st)=some (bv (a==1),st)
  rw [hV];rfl
 ·show some (V.d (.bool ((a==1)&&false)),st)=_
  rw [mS];rfl)))
noncomputable def Pc (D:mY):Bool:=dC (eJ D) (eJ jI)
theorem aFe {D:mY} (h:Pc D=true):D=jI:=by rw [<-GY D,OY.1 _ _ h];exact GY jI
theorem aFm (D:mY) (st:St):nC .eq (.d (eJ D)) (.d (eJ jI)) st=some (bv (Pc D),st):=aY (a:=eJ D) rfl (aY (a:=eJ jI) rfl (aY (a:=()) (by unfold Xd;rw [decide_eq_true (aB (gT ..) (by decide))];rfl) rfl))
noncomputable def Au.bit (l:Au):Bool:=match l.k with
 | .eq=>l.c==1
 | _=>false
theorem NA (h:l=⟨l.k,[1],[x],l.c⟩) (hx:In G.n x) (hd:G.eG x=jI):Run 60 (some .func) .jO [mM,.d l.enc] (cR K G T m) (.d (Tr.enc (.bit x l.bit))) (cR K G T m):=by
 have r:=qH K T m hx
 rw [hd] at r
 rcases l with ⟨k,cs,xs,c⟩
 rw [h]
 cases k with
 | eq=>exact Run.same rfl [eX 3,eC r,eX 3,eX 3,eQ (cR K G T m) (a:=c==1) rfl] (by kernel_rfl)
 | _=>exact Run.same rfl [eX 3,eC r] (by kernel_rfl)
theorem JN {u:Bool} (hc:IA l.cs=false\/∃x,l=⟨l.k,[1],[x],l.c⟩/\In G.n x/\Pc (G.eG x)=false) (r:xR G (.Ad l) jI [.Ad z l] z u G1 G') (hO:Ok T m)
  :Run 60 (some .func) .jO [mM,.d l.enc] (cR K G T m) (.d (Tr.enc (.bit z true))) (cR K G' T m):=by
 have h4:=r.run K T m hO
 refine hc.elim (λe=> ?_) λe=>e.elim λx e=> ?_
 ·have q:=aFn l.cs (cR K G T m)
  rw [e] at q
  cases u with
  | true=>exact Run.same rfl [eP 3 q,eC h4,eC (r.post K T m)] (by kernel_rfl)
  | false=>rw [r.old rfl];exact Run.same rfl [eP 3 q,eC h4] (by kernel_rfl)
 ·have d:=qH K T m e.2.1
  have q:=aFm (G.eG x) (cR K G T m)
  rw [e.2.2] at q
  rcases l with ⟨k,cs,xs,c⟩
  rw [e.1] at r h4⊢
  cases u with
  | true=>exact Run.same rfl [eX 3,eC d,eP 3 q,eC h4,eC (r.post K T m)] (by kernel_rfl)
  | false=>rw [r.old rfl];exact Run.same rfl [eX 3,eC d,eP 3 q,eC h4] (by kernel_rfl)
theorem ZG {k:Kd} {c w:Int} (hk:k≠ .ne) (h:k.rel (1*0+0 - c)≠k.rel (1*1+0 - c)) (hw:w=0\/w=1):((w==1)==Au.bit ⟨k,[1],[],c⟩)=k.rel (1*w+0 - c):=by
 cases k with
 | ne=>exact absurd rfl hk
 | le=>
  have e:c=0:=pV λn=>h (decide_eq_decide.2 ⟨λh=>fV (Int.lt_iff_le_and_ne.2 ⟨gP h,λe=>n e.symm⟩),λh=>fV (aD (by decide) (gP h))⟩)
  rw [e];rcases hw with rfl | rfl<;>rfl
 | eq=>
  have e:c=0\/c=1:=pV λn=>h ((xM (a:=1*0+0 - c) (b:=0) λe=>n (.inl (iV (a:=0).1 e).symm)).trans (xM (a:=1*1+0 - c) (b:=0) λe=>n (.inr (iV (a:=1).1 e).symm)).symm)
  rcases e with rfl | rfl<;>rcases hw with rfl | rfl<;>rfl
theorem GH (g:Good X0 G) (R:nU G (j+1)) (hk:l.k≠ .ne) (len:l.cs.length=l.xs.length) (l6:l.xs.length<=60) (hx:∀x,x∈l.xs->In G.n x) (fit:∀x,l.xs=[x]->G.eG x=jI->aPc l x):∃t G',Tm G 60 .jO [.d l.enc] t G' 0 1 λv=>l.kept v:=by
 have one (h:IA l.cs=true):∃x,l=⟨l.k,[1],[x],l.c⟩:=by
  rcases l with ⟨k,cs,xs,c⟩
  rcases cs with _ | ⟨a,_ | ⟨b,r⟩⟩
  ·exact lH h
  ·obtain ⟨x,e⟩:=List.length_eq_one_iff.1 (Jj len)
   have h:a=1:=eq_of_beq h
   exact ⟨x,by rw [h];exact congrArg (λxs=>Au.mk k [1] xs c) e⟩
  ·exact lH h
 have fin (h:IA l.cs=false\/∃x,l=⟨l.k,[1],[x],l.c⟩/\In G.n x/\Pc (G.eG x)=false):∃t G',Tm G 60 .jO [.d l.enc] t G' 0 1 λv=>l.kept v:=by
  obtain ⟨z,u,G1,G',r⟩:=yJ g (k:= .Ad l) (D:=jI) (λz=>[.Ad z l]) R Qe (aP rfl) (zD ⟨⟨aB (bK l6) (by decide),λq m=>by rw [aC.1 m];exact len⟩,λx m=>(aJ.1 m).elim (λe=>by rw [e];exact In.self) λm=>(hx x m).mono (bJ _)⟩) (λv v' a=>congrArg b2i (Au.congr λx m=>a x (hx x m))) (λv Y=>Tf _)
   (λv Y d=>Bm.trans (by show (l.kept v==(v G.n==1))=true↔_;rw [beq_iff_eq,eq_comm];exact FY (Hq.1 d))) (mD rfl)
  exact ⟨.bit z true,G',λK T m hO=>JN h r hO,r.step,⟨r.mem,r.eG⟩,λv s=>by show ((v z==1)==true)=_;rw [r.eq v s];exact (Pi _ _).trans (beq_true _)⟩
 refine tf _ (λh=>(one h).elim λx e=> ?_) λh=>fin (.inl h)
 have m:In G.n x:=hx x (by rw [e];exact .head _)
 refine tf (Pc (G.eG x)) (λq=> ?_) λq=>fin (.inr ⟨x,e,m,q⟩)
 have q:=aFe q
 refine ⟨.bit x l.bit,G,λK T n Y=>NA e m q,.refl g 1,⟨m,q⟩,λv s=> ?_⟩
 have f:=fit x (by rw [e]) q (λY=>0) (λY=>1) rfl rfl
 rw [e] at f⊢
 exact ZG hk f (Tb ⟨m,q⟩ s)
end
section
variable {G G' G1:GS} {l q:Au} {k:Kd} {t:Tr} {a b c:Int} {j d:Nat} {v:Int->Int} {K:Kx} {T:List (Nat×O)} {m:Nat} {y:aE} {s:Sm} {B:Int} {r:List Int}
noncomputable def Au.neg (l:Au) (d:Int):Au:=⟨l.k,l.cs.map (-·),l.xs,d⟩
theorem Yh:∀cs xs:List Int,dot v (cs.map (-·)) xs= -dot v cs xs
 | [],_=>rfl
 | _::_,[]=>rfl
 | a::cs,x::xs=>by show -a*v x+dot v (cs.map (-·)) xs= -(a*v x+dot v cs xs);rw [Yh cs xs,yG,Dx]
theorem Xf (h:l.k= .le):(l.neg (-l.c - 1)).kept v= !l.kept v:=by
 unfold Au.kept
 rw [show (l.neg (-l.c - 1)).k= .le from h,h]
 show decide (dot v (l.cs.map (-·)) l.xs - (-l.c - 1)<=0)= !decide (dot v l.cs l.xs - l.c<=0)
 rw [Yh,<-decide_not]
 exact decide_eq_decide.2 ⟨λh=>iA.2 (Jf (Int.neg_lt_neg_iff.1 (Int.lt_of_le_sub_one (gP h)))),λh=>fV (uC (Int.neg_lt_neg (Int.lt_of_sub_pos (iA.1 h))))⟩
theorem neg_eq (h:l.k= .eq):(l.neg (-l.c)).kept v=l.kept v:=by
 unfold Au.kept
 rw [show (l.neg (-l.c)).k= .eq from h,h]
 show (dot v (l.cs.map (-·)) l.xs - -l.c==0)=(dot v l.cs l.xs - l.c==0)
 rw [Yh,iX,beq_iff_eq,beq_iff_eq,iV,iV,Int.neg_inj]
theorem Sv (ρ:List (Nm×V)) (st:St) (cs:List Int):∀j,6<=j->kL (ev j).E ρ (.neg (.v .mI)) (.n .mI) [] (cs.map .int) st=some ((cs.map (-·)).map .int,st):=by
 rw [dM]
 exact Ct cs λp Y=>⟨_,rfl,kG [] (by kernel_rfl)⟩
noncomputable abbrev aNx (k y:aE) (l:Au):List (Nm×V):=[(.bD,mM),(.mH,.d k),(.dN,.d y),(.cK,.d l.enc),(.oN,.d (qV l.cs)),(.eO,.d (qV l.xs)),(.Br,iv l.c),(.Eg,.un)]
theorem first (st:St) (h:l.cs=a::r):itemOf (.d (qV l.cs)) (iv 0) st=some (iv a,st):=by rw [h];exact item_tup IZ
section
variable (h1:Run 60 (some .func) .gW [mM,.d q.k.s,.d y] (cR K G T m) (.d q.enc) (cR K G T m)) (hc:q.cs=a::r)
include h1 hc
theorem aJm (hk:q.k= .le) (ha:a<0) (h2:Run 60 (some .func) .jO [mM,.d (q.neg (-q.c - 1)).enc] (cR K G T m) (.d t.enc) (cR K G1 T m)):Run 90 (some .func) .gG [mM,.d q.k.s,.d y] (cR K G T m) (.d t.no.enc) (cR K G1 T m):=by
 have i:=first (cR K G T m) hc
 have p:=Sv (aNx q.k.s y q) (cR K G T m) q.cs
 have n:=fY t (cR K G1 T m)
 rcases q with ⟨k,cs,xs,c⟩
 cases k with
 | le=>exact Run.same rfl [eC h1,eK p,eP 4 i,eQ (cR K G T m) (decide_eq_true ha),eC h2,eC n] (by kernel_rfl)
 | _=>exact nomatch hk
theorem aDi (hk:q.k≠ .ne) (ha:0<a) (h2:Run 60 (some .func) .jO [mM,.d q.enc] (cR K G T m) (.d t.enc) (cR K G1 T m)):Run 90 (some .func) .gG [mM,.d q.k.s,.d y] (cR K G T m) (.d t.enc) (cR K G1 T m):=by
 have i:=first (cR K G T m) hc
 have p:=Sv (aNx q.k.s y q) (cR K G T m) q.cs
 have e:decide (a<0)=false:=decide_eq_false (dD.2 (dA ha))
 rcases q with ⟨k,cs,xs,c⟩
 cases k<;>first | exact absurd rfl hk | exact Run.same rfl [eC h1,eK p,eP 4 i,eQ (cR K G T m) e,eP 4 i,eQ (cR K G T m) (decide_eq_true (show a>0 from ha)),eC h2] (by kernel_rfl)
theorem aJn (hk:q.k= .eq) (ha:a<0) (h2:Run 60 (some .func) .jO [mM,.d (q.neg (-q.c)).enc] (cR K G T m) (.d t.enc) (cR K G1 T m)):Run 90 (some .func) .gG [mM,.d q.k.s,.d y] (cR K G T m) (.d t.enc) (cR K G1 T m):=by
 have i:=first (cR K G T m) hc
 have p:=Sv (aNx q.k.s y q) (cR K G T m) q.cs
 have e:decide (a>0)=false:=decide_eq_false (dD.2 (dA ha))
 rcases q with ⟨k,cs,xs,c⟩
 cases k with
 | eq=>exact Run.same rfl [eC h1,eK p,eP 4 i,eQ (cR K G T m) (decide_eq_true ha),eP 4 i,eQ (cR K G T m) e,eC h2] (by kernel_rfl)
 | _=>exact nomatch hk
end
theorem GT (g:Good X0 G) (R:nU G (j+1)) (hk:k≠ .ne) (o:wE G s B) (hB:B<=60) {w:Rw} (rw_:aHn G y k s w):∃t G',Tm G 90 .gG [.d k.s,.d y] t G' 0 1 λv=>k.rel (s.at v):=by
 cases w with
 | b w=>exact ⟨.b w,G,λK T m hO=>Run.same rfl [eC (rw_.run K T m hO)] (by kernel_rfl),.refl g 1,trivial,λv h=>(rw_.b w rfl v h).symm⟩
 | l q=>
  have h:=rw_.l q rfl
  have h1:=rw_.run
  rcases h with ⟨rfl,hxs,len,nz,ne,eq,fit⟩
  obtain ⟨a,r,hc⟩:=lF ne
  have l6:q.xs.length<=60:=by rw [hxs,aI];exact cZ.1 (aD o.len hB)
  have hx:∀x,x∈q.xs->In G.n x:=λx m=>by rw [hxs] at m;exact (aT.1 m).elim λp e=>by rw [<-e.2];exact (o.mem p e.1).1
  have ha:a≠0:=nz a (by rw [hc];exact .head _)
  have go {d:Int} (A:(Int->Int)->Bool) (e:∀v,(q.neg d).kept v=A v) (f:∀x,q.xs=[x]->G.eG x=jI->aPc (q.neg d) x):=GH g R (l:=q.neg d) hk (by show (q.cs.map (-·)).length=_;rw [aI];exact len) l6 hx f
  rcases qQ ha with ha | ha
  ·by_cases k1:q.k= .le
   ·obtain ⟨t,G',h⟩:=go (λv=> !q.kept v) (λv=>Xf k1) λx e d v v' a b=>by rw [Xf k1,Xf k1];exact λz=>fit x e d v v' a b (Bool.not_inj z)
    exact ⟨t.no,G',λK T m hO=>aJm (h1 K T m hO) hc k1 ha (h.run K T m hO),h.step,h.ok.no,λv s=>by rw [Tr.xO,h.eq v s,Xf k1,vU];exact eq v⟩
   ·have k2:q.k= .eq:=by revert hk k1;cases q.k<;>intro a b<;>first | rfl | exact absurd rfl a | exact absurd rfl b
    obtain ⟨t,G',h⟩:=go (λv=>q.kept v) (λv=>neg_eq k2) λx e d v v' a b=>by rw [neg_eq k2,neg_eq k2];exact fit x e d v v' a b
    exact ⟨t,G',λK T m hO=>aJn (h1 K T m hO) hc k2 ha (h.run K T m hO),h.step,h.ok,λv s=>by rw [h.eq v s,neg_eq k2];exact eq v⟩
  ·obtain ⟨t,G',h⟩:=GH g R hk len l6 hx fit
   exact ⟨t,G',λK T m hO=>aDi (h1 K T m hO) hc hk ha (h.run K T m hO),h.step,h.ok,λv s=>(h.eq v s).trans (eq v)⟩
theorem sA (g:Good X0 G) (R:nU G (j+1)) (h1:gS 14 .lG [.d y] (.d s.enc)) (hb:Me 32 .jB [.d y] G (.d (.tuple [.int (G.bl s),.int (G.bh s)])) G 0) (o:wE G s B) (hB:B<=60):∃t G',Tm G 100 .gG [.d k.s,.d y] t G' 0 1 λv=>k.rel (s.at v):=by
 obtain ⟨w,r⟩:=Ww (k:=k) g h1 hb o hB
 by_cases hk:k= .ne
 ·subst hk
  cases w with
  | b w=>exact ⟨.b w,G,λK T m hO=>Run.same rfl [eC (r.run K T m hO)] (by kernel_rfl),.refl g 1,trivial,λv h=>(r.b w rfl v h).symm⟩
  | l q=>
   obtain ⟨w,r2⟩:=Ww (k:= .eq) g h1 hb o hB
   obtain ⟨t,G',h⟩:=GT g R (k:= .eq) nofun o hB r2
   have hq:=(r.l q rfl).kd
   have hr:=r.run
   rcases q with ⟨k,cs,xs,c⟩
   cases hq
   exact ⟨t.no,G',λK T m hO=>Run.same rfl [eC (hr K T m hO),eC (h.run K T m hO),eC (fY t (cR K G' T m))] (by kernel_rfl),h.step,h.ok.no,λv s=>by rw [Tr.xO,h.eq v s];rfl⟩
 ·obtain ⟨t,G',h⟩:=GT g R hk o hB r
  exact ⟨t,G',λK T m hO=>(h.run K T m hO).up (by decide),h.step,h.ok,h.eq⟩
end
abbrev Bs:=List (Int×Bool)
noncomputable def tb (k:Int×Bool):Tr:= .bit k.1 k.2
noncomputable abbrev fQ (l:Bs):List aE:=l.map lI
noncomputable def xG (l:Bs) (t:Tr):Bool:=(fQ l).any λy=>dC y t.enc
section
variable {l:Bs} {t:Tr} {x:Int} {u:Bool} {st:St} {v:Int->Int}
theorem IO (k:Int×Bool) (x:Int) (u:Bool):dC (lI k) (Tr.enc (.bit x u))=true↔k=(x,u):=by
 show (true&&((k.1==x)&&((k.2==u)&&true)))=true↔_
 rw [Gu,hV,kY,beq_iff_eq,beq_iff_eq,<-Prod.mk.injEq]
theorem Ew:xG l (.bit x u)=true↔(x,u)∈l:=by
 unfold xG
 rw [List.any_map,mP]
 exact ⟨λh=>h.elim λk q=>(IO k x u).1 q.2▸q.1,λh=>⟨_,h,(IO _ x u).2 rfl⟩⟩
theorem QN (w:Bool):xG l (.b w)=false:=by
 induction l with
 | nil=>rfl
 | cons k r i=>exact i
theorem aKe (xs:List aE) (t:Tr):okIn xs t.enc=true:=decide_eq_true (aB (gT ..) (aB (aEz (n:=0) t).2 (by decide)))
theorem QH {b:V} {o:List aE} (h:Uv b st=some (o,st)):nC .Oj (.d t.enc) b st=some (bv (o.any λy=>dC y t.enc),st):=aY (a:=t.enc) rfl (aY h (aY (a:=o.any λy=>dC y t.enc) (aY (a:=()) (by rw [aKe];rfl) rfl) rfl))
theorem QJ (xs:List aE) (t:Tr) (st:St):nC .Oj (.d t.enc) (.d (.list xs)) st=some (bv (xs.any λy=>dC y t.enc),st):=QH rfl
theorem CU {h:Int->Int}:∀l:List Int,(∀x,x∈l->0<=h x)->0<=T h l/\(0<T h l↔∃x,x∈l/\0<h x)
 | []=>λY=>⟨aW _,λh=>absurd h (zB 0),λh=>h.elim λx q=>nomatch q.1⟩
 | x::r=>λhh=>by
  have i:=CU r λy m=>hh y (.tail _ m)
  have hx:=hh x (.head _)
  refine ⟨wU hx i.1,λp=> ?_,λe=>e.elim λy q=> ?_⟩
  ·rcases cG hx with p' | e
   ·exact ⟨x,.head _,p'⟩
   ·exact (i.2.1 (by have p:0<h x+T h r:=p;rw [<-e,fD] at p;exact p)).imp λy q=>⟨.tail _ q.1,q.2⟩
  ·exact (aJ.1 q.1).elim (λe=>uY (e▸q.2) i.1) λm=>uZ hx (i.2.2 ⟨y,m,q.2⟩)
noncomputable def Lo (l:List Int):List Int:=hJ (dedup l)
theorem AX {x:Int} (l:List Int):x∈Lo l↔x∈l:=by
 refine (iP _).mem_iff.trans ?_
 induction l with
 | nil=>exact Bi
 | cons a r i=>
  show x∈(if r.contains a then dedup r else a::dedup r)↔_
  by_cases c:r.contains a=true
  ·rw [if_pos c,i];exact ⟨.tail _,λh=>(aJ.1 h).elim (λe=>e▸jA.1 c) id⟩
  ·rw [if_neg c,aJ,aJ,i]
noncomputable def iQ (l:Bs):Told:= .clause (Lo (((bF l).filter λk=>k.2).map bY)) (Lo (((bF l).filter λk=> !k.2).map bY))
theorem SM {k:Int×Bool} (h:v k.1=0\/v k.1=1):(tb k).at v=true↔0<(bif k.2 then v k.1 else 1 - v k.1):=by
 show ((v k.1==1)==k.2)=true↔_
 rcases h with h | h<;>rw [h]<;>cases k.2<;>decide
theorem Mn (h:∀k,k∈l->v k.1=0\/v k.1=1):(iQ l).kept v=true↔∃k,k∈l/\(tb k).at v=true:=by
 have ms {p:Int×Bool->Bool} {x:Int}:x∈Lo (((bF l).filter p).map bY)↔∃k,(k∈l/\p k=true)/\k.1=x:=(AX _).trans (aT.trans (exists_congr λk=>and_congr_left λY=>eA.trans (and_congr_left λY=>(kP l).mem_iff)))
 have bd {x:Int} (e:∃k,k∈l/\k.1=x):0<=v x/\0<=1 - v x:=e.elim λk q=>by rw [<-q.2];rcases h k q.1 with h | h<;>rw [h]<;>decide
 have a:=CU (h:=v) (Lo (((bF l).filter λk=>k.2).map bY)) λx m=>(ms.1 m).elim λk q=>(bd ⟨k,q.1.1,q.2⟩).1
 have b:=CU (h:=λx=>1 - v x) (Lo (((bF l).filter λk=> !k.2).map bY)) λx m=>(ms.1 m).elim λk q=>(bd ⟨k,q.1.1,q.2⟩).2
 refine decide_eq_true_iff.trans ⟨λp=> ?_,λe=>e.elim λk q=> ?_⟩
 ·have c:0<T v (Lo (((bF l).filter λk=>k.2).map bY))\/0<T (λx=>1 - v x) (Lo (((bF l).filter λk=> !k.2).map bY)):=by
   rcases cG a.1 with q | e
   ·exact .inl q
   ·rw [<-e,fD] at p;exact .inr p
  refine c.elim (λc=>(a.2.1 c).elim λx q=>(ms.1 q.1).elim λk w=>⟨k,w.1.1,(SM (h k w.1.1)).2 ?_⟩) λc=>(b.2.1 c).elim λx q=>(ms.1 q.1).elim λk w=>⟨k,w.1.1,(SM (h k w.1.1)).2 ?_⟩
  ·rw [w.1.2,w.2];exact q.2
  ·rw [show k.2=false from by simpa using w.1.2,w.2];exact q.2
 ·have p:=(SM (h k q.1)).1 q.2
  cases e:k.2 with
  | true=>rw [e] at p;exact uY (a.2.2 ⟨k.1,ms.2 ⟨k,⟨q.1,e⟩,rfl⟩,p⟩) b.1
  | false=>rw [e] at p;exact uZ a.1 (b.2.2 ⟨k.1,ms.2 ⟨k,⟨q.1,by rw [e];rfl⟩,rfl⟩,p⟩)
theorem Tc:∀l:Bs,Fz (fQ l)=some l
 | []=>rfl
 | k::r=>by
  show (Yx (lI k)).bind _=_
  rw [show Yx (lI k)=some k from show (if Nm.oP.str=Nm.oP.str then some (k.1,k.2) else none)=some k from if_pos rfl,Tc r];rfl
theorem Zw (h:l.length<=4) (ne:l≠[]):Qm (fQ l)=some (fQ (bF l)):=by
 obtain ⟨k,r,rfl⟩:=lF ne
 show (if (fQ (k::r)).length<=4 then (Fz (fQ (k::r))).map λks=>(bF ks).map lI else none)=_
 rw [if_pos (by rw [aI];exact h),Tc];rfl
end
section
variable {l:Bs} {G:GS} {K:Kx} {T:List (Nat×O)} {m:Nat} {st:St} {is:List Int}
theorem Pd:∀l:List Int,intsOf (l.map .int)=some l
 | []=>rfl
 | a::r=>by show (intsOf (r.map .int)).map _=_;rw [Pd r];rfl
theorem DK (h:is.length<=4) (b:∀i,i∈is->In 64 i):builtin .oM [.d (.list (is.map .int))] st=some (.d (.list ((Lo is).map .int)),st):=aY (a:=is.map .int) rfl (aY (a:=is) (by rw [Pd];rfl) (aY (a:=()) (by rw [aI,decide_eq_true h,dH.2 λ(i:Int) m=>decide_eq_true (show 0<=i/\i<64 from b i m)];rfl) rfl))
theorem Zv (h:l.length<=4) (ne:l≠[]):builtin .sorted [.d (.list (fQ l))] st=some (.d (.list (fQ (bF l))),st):=aY (a:=fQ l) rfl (aY (a:=()) (by rw [aI,decide_eq_true (aB h (by decide))];rfl) (aY (a:=fQ (bF l)) (by rw [Zw h ne];rfl) rfl))
theorem XS {x:Int} {u:Bool} (h:(x,u)∉l):xG l (.bit x u)=false:=oJ.2 λe=>h (Ew.1 e)
theorem aBe {t:Tr} (h:xG l t=false) (st:St):nC .Oj (.d t.enc) (.d (.list (fQ l))) st=some (bv false,st):=by rw [<-h];exact QJ (fQ l) t st
noncomputable abbrev aJp (l:Bs) (a b c:V):List (Nm×V):=[(.bD,mM),(.lZ,.d (.list (fQ l))),(.Rl,a),(.HN,b),(.Pa,c)]
theorem VL (hc:∀k,k∈l->(k.1,!k.2)∉l) (u v w:V) (st:St):∀j,20<=j->kL (ev j).E (aJp l u v w) (.v .bG) (.n .bG) [.and [.cmp (.v .bG) [(.ne,.bool false)],.cmp (.call .eL [.v .bG]) [(.Oj,.v .lZ)]]] (fQ l) st=some ([],st):=by
 have h:=Gz (st:=st) (n:=20) (ρ:=aJp l u v w) (t:= .n .bG) (e:= .v .bG) (i:= .and [.cmp (.v .bG) [(.ne,.bool false)],.cmp (.call .eL [.v .bG]) [(.Oj,.v .lZ)]]) (F:=lI) (d:=lI) (c:=λY=>false) l λk hk=>⟨_,rfl,λj hj=>⟨kG [eX 3,eC (fY (tb k) st),eP 3 (aBe (XS (hc k hk)) st)] (by kernel_rfl) j hj,kG [] (by kernel_rfl) j hj⟩⟩
 rwa [List.filter_eq_nil_iff.2 λY Y=>cP] at h
theorem aDm (u v w:V) (st:St):∀j,12<=j->kL (ev j).E (aJp l u v w) (.v .bG) (.n .bG) [.cmp (.v .bG) [(.ne,.bool false)]] (fQ l) st=some (fQ l,st):=by
 have h:=Gz (st:=st) (n:=12) (ρ:=aJp l u v w) (t:= .n .bG) (e:= .v .bG) (i:= .cmp (.v .bG) [(.ne,.bool false)]) (F:=lI) (d:=lI) (c:=λY=>true) l λk hk=>⟨_,rfl,λj hj=>⟨kG [] (by kernel_rfl) j hj,kG [] (by kernel_rfl) j hj⟩⟩
 rwa [List.filter_eq_self.2 λY Y=>rfl] at h
theorem aJo (ρ:List (Nm×V)) (b:Bs) (st:St):(∀j,12<=j->kL (ev j).E ρ (.sub (.v .bG) (.int 1)) (.n .bG) [.sub (.v .bG) (.int 2)] (fQ b) st=some (((b.filter λk=>k.2).map bY).map .int,st))/\∀j,12<=j->kL (ev j).E ρ (.sub (.v .bG) (.int 1)) (.n .bG) [.not (.sub (.v .bG) (.int 2))] (fQ b) st=some (((b.filter λk=> !k.2).map bY).map .int,st):=by
 rw [dM,dM]
 exact ⟨Gz b λk Y=>⟨_,rfl,λj hj=>⟨kG [] (by kernel_rfl) j hj,kG [] (by kernel_rfl) j hj⟩⟩,Gz b λk Y=>⟨_,rfl,λj hj=>⟨kG [] (by kernel_rfl) j hj,kG [] (by kernel_rfl) j hj⟩⟩⟩
theorem GU {p:Int×Bool->Bool} (h:l.length<=4) (b:∀k,k∈l->In 64 k.1) (st:St):builtin .oM [.d (.list ((((bF l).filter p).map bY).map .int))] st=some (.d (.list ((Lo (((bF l).filter p).map bY)).map .int)),st):=DK (by rw [aI];exact aB (iZ _ _) (by rw [(kP l).length_eq];exact h)) λi m=>(aT.1 m).elim λk q=>by rw [<-q.2];exact b k ((kP l).mem_iff.1 (eA.1 q.1).1)
theorem Ee (hc:∀k,k∈l->(k.1,!k.2)∉l) (h:l.length<=4) (ne:l≠[]) (b:∀k,k∈l->In 64 k.1) (hG:G.eV.length<10000):Run 60 (some .func) .gA [mM,.d (.list (fQ l))] (cR K G T m) (.d .none) (cR K (G.gB (iQ l)) T m):=
 have c:=aJo (aJp l (.d (.list (fQ (bF l)))) .un .un) (bF l) (cR K G T m)
 Run.same rfl [eP 3 (aBe (QN (l:=l) true) (cR K G T m)),eK (VL hc .un .un .un (cR K G T m)),eK (aDm (l:=l) .un .un .un (cR K G T m)),eP 7 (Zv (st:=cR K G T m) h ne),eK c.1,eK c.2,
  eP 7 (GU (p:=λk=>k.2) h b (cR K G T m)),eX 7,eP 7 (GU (p:=λk=> !k.2) h b (cR K G T m)),eC (Aa K T m (iQ l) hG)] (by kernel_rfl)
theorem Gw (w:Bool) (hG:G.eV.length<10000):Run 60 (some .func) .gA [mM,.d (.list [.bool w])] (cR K G T m) (.d .none) (cR K (bif w then G else G.gB (.clause [] [])) T m):=by
 cases w with
 | true=>exact Run.same rfl [] (by kernel_rfl)
 | false=>exact Run.same rfl [eC (Aa K T m (.clause [] []) hG)] (by kernel_rfl)
end
noncomputable def aFf:Tr->Bool
 | .b w=> !w
 | _=>false
noncomputable def Tk (ks:Bs):Tr->Bs
 | .b _=>ks
 | .bit x u=>bif xG ks (.bit x u) then ks else ks++[(x,u)]
noncomputable def Er:List Tr->Bs->Option Bs
 | [],ks=>some ks
 | t::r,ks=>bif aFf t||xG ks t.no then none else Er r (Tk ks t)
theorem HW {t:Tr} {r:List Tr} {ks:Bs}:Er (t::r) ks=bif aFf t||xG ks t.no then none else Er r (Tk ks t):=rfl
noncomputable def nb:List Tr->Nat
 | []=>0
 | .b _::r=>nb r
 | .bit _ _::r=>nb r+1
structure Cs (ks:Bs):Prop where
 nd:ks.Nodup
 no:∀k,k∈ks->(k.1,!k.2)∉ks
structure TV (ts:List Tr) (ks ks':Bs):Prop where
 cs:Cs ks'
 sub:∀k,k∈ks'->k∈ks\/tb k∈ts
 sup:∀k,k∈ks->k∈ks'
 all:∀v,(∀k,k∈ks'->(tb k).at v=true)->∀t,t∈ts->t.at v=true
 len:ks'.length<=ks.length+nb ts
section
variable {ks ks':Bs} {t:Tr} {ts:List Tr}
theorem TG {x:Int} {u:Bool} (e:xG ks (.bit x u)=true):Tk ks (.bit x u)=ks:=by show (bif xG ks (.bit x u) then ks else _)=_;rw [e];rfl
theorem TH {x:Int} {u:Bool} (e:xG ks (.bit x u)=false):Tk ks (.bit x u)=ks++[(x,u)]:=by show (bif xG ks (.bit x u) then ks else _)=_;rw [e];rfl
theorem ZX (c:Cs ks) (h:(aFf t||xG ks t.no)=false):TV [t] ks (Tk ks t):=by
 have h:=uE.1 h
 cases t with
 | b w=>
  have e:w=true:=(wV ..).mp h.1
  exact ⟨c,λk m=> .inl m,λY m=>m,λv Y t m=>by rw [aC.1 m];exact e,bM _⟩
 | bit x u=>
  refine tf (xG ks (.bit x u)) (λe=> ?_) λe=> ?_
  ·rw [TG e];exact ⟨c,λk m=> .inl m,λY m=>m,λv a t m=>by rw [aC.1 m];exact a _ (Ew.1 e),bJ _⟩
  ·have n:(x,u)∉ks:=λm=>lH (e.symm.trans (Ew.2 m))
   have n':(x,!u)∉ks:=λm=>lH (h.2.symm.trans (Ew.2 m))
   have mm {k:Int×Bool}:k∈ks++[(x,u)]↔k∈ks\/k=(x,u):=aV.trans (or_congr Bi aC)
   rw [TH e]
   refine ⟨⟨bB.2 ⟨c.nd,fP ..,λa m b m' e=>n (by rw [<-aC.1 m',<-e];exact m)⟩,λk m m'=> ?_⟩,λk m=>(mm.1 m).imp id λe=>by rw [e];exact .head _,λk m=>mm.2 (.inl m),λv a t m=>by rw [aC.1 m];exact a (x,u) (mm.2 (.inr rfl)),by show (ks++[(x,u)]).length<=_;rw [aN];exact bM _⟩
   rcases mm.1 m with m | rfl
   ·rcases mm.1 m' with q | e
    ·exact c.no k m q
    ·have e:=cL e
     exact n' (by rw [<-e.1,<-e.2,vU];exact m)
   ·rcases mm.1 m' with q | e
    ·exact n' q
    ·exact (show ∀u,(!u)≠u from by decide) u (cL e).2
theorem HV:∀ (ts:List Tr) (ks:Bs),Cs ks->match Er ts ks with
  | none=>∀v,(∀k,k∈ks->(tb k).at v=true)->(∀t,t∈ts->t.at v=true)->False
  | some ks'=>TV ts ks ks'
 | []=>λks c=>⟨c,λk m=> .inl m,λY m=>m,λY Y Y m=>(nomatch m),bM _⟩
 | t::r=>λks c=>by
  rw [HW]
  refine tf (aFf t||xG ks t.no) (λe=> ?_) λe=> ?_
  ·rw [e]
   intro v a b
   have ht:=b t (.head _)
   rcases gY.1 e with e | e
   ·cases t with
    | b w=>exact lH (((oI _).mp e).symm.trans ht)
    | bit x u=>exact lH e
   ·cases t with
    | b w=>exact lH ((QN (!w)).symm.trans e)
    | bit x u=>exact lH (((congrArg not ht).symm.trans (Tr.xO.symm.trans (a _ (Ew.1 e)))))
  ·rw [e]
   have q:=ZX c e
   have i:=HV r (Tk ks t) q.cs
   show match Er r (Tk ks t) with
    | none=>_
    | some ks'=>_
   revert i
   cases Er r (Tk ks t) with
   | none=>
    refine λi v a b=>i v (λk m=> ?_) λt m=>b t (.tail _ m)
    exact (q.sub k m).elim (a k) λm=>by rw [aC.1 m];exact b t (.head _)
   | some ks'=>
    exact λi=>⟨i.cs,λk m=>(i.sub k m).elim (λm=>(q.sub k m).imp id λm=>by rw [aC.1 m];exact .head _) λm=> .inr (.tail _ m),λk m=>i.sup k (q.sup k m),λv a t' m=>(aJ.1 m).elim (λe=>by rw [e];exact q.all v (λk m=>a k (i.sup k m)) t (.head _)) (i.all v a t'),aB i.len (aB (cW q.len _) (by cases t<;>(show ks.length+_+nb r<=_;rw [bL];exact bE (by show _<=nb _;first | exact bT (eH _) | exact bT (dQ ..)) _)))⟩
end
section
variable {K:Kx} {G:GS} {T:List (Nat×O)} {m n:Nat} {o o':O} {ks:Bs} {t:Tr} {L:List (Nat×O)}
theorem Uk (hF:Fs m L) (k:Int×Bool) (h:ks.length<1000):method (.ref m) .iI [.d (lI k)] ⟨L++[(m,.list (fQ ks))],n⟩=some (.d .none,⟨L++[(m,.list (fQ (ks++[k])))],n⟩):=pR (At.top hF) (by rw [aI];exact lS h (by decide)) (by rw [show fQ (ks++[k])=fQ ks++[lI k] from cS];exact Um.top hF)
noncomputable abbrev MH (tv x:V) (m:Nat):List (Nm×V):=[(.bD,mM),(.lZ,tv),(.mV,.ref m),(.bG,x),(.eO,.un),(.Fk,.un),(.Kw,.un),(.eR,.un)]
noncomputable abbrev aMg:List Sx:=[
  .gR (.or [.cmp (.v .bG) [(.eq,.bool false)],.cmp (.call .eL [.v .bG]) [(.Oj,.v .mV)]]) [
   .ret (some (.bool false))] [],
  .gR (.and [.cmp (.v .bG) [(.ne,.bool true)],.cmp (.v .bG) [(.KJ,.v .mV)]]) [
   .ex (.met (.v .mV) .iI [.v .bG])] []]
theorem XD (hF:Fs m L) (t:Tr):nC .Oj (.d t.enc) (.ref m) ⟨L++[(m,.list (fQ ks))],n⟩=some (bv (xG ks t),⟨L++[(m,.list (fQ ks))],n⟩):=QH (aY (At.top hF).get rfl)
theorem PW (hF:Fs m L) (t:Tr):nC .KJ (.d t.enc) (.ref m) ⟨L++[(m,.list (fQ ks))],n⟩=some (bv (!xG ks t),⟨L++[(m,.list (fQ ks))],n⟩):=aY (a:=t.enc) rfl (aY (At.top hF).get (aY (a:=xG ks t) (aY (a:=()) (by rw [aKe];rfl) rfl) rfl))
theorem aBs (hF:Fs m L) (tv:V) (t:Tr):∀j,20<=j->(ev j).E (MH tv (.d t.enc) m) (.or [.cmp (.v .bG) [(.eq,.bool false)],.cmp (.call .eL [.v .bG]) [(.Oj,.v .mV)]]) ⟨L++[(m,.list (fQ ks))],n⟩=some (bv (aFf t||xG ks t.no),⟨L++[(m,.list (fQ ks))],n⟩):=by
 have c:=fY t ⟨L++[(m,.list (fQ ks))],n⟩
 have q:=XD (n:=n) (ks:=ks) hF t.no
 rcases t with ⟨_ | _⟩ | ⟨x,u⟩
 ·exact kG [] (by kernel_rfl)
 ·exact kG [eX 3,eC c,eP 3 q] (by kernel_rfl)
 ·exact kG [eX 3,eC c,eP 3 q] (by kernel_rfl)
theorem ZS (hF:Fs m L) (tv:V) (t:Tr) (h:ks.length<1000) (e:(aFf t||xG ks t.no)=false):∀j,30<=j->(ev j).B aMg (MH tv (.d t.enc) m) ⟨L++[(m,.list (fQ ks))],n⟩=some ((.next,MH tv (.d t.enc) m),⟨L++[(m,.list (fQ (Tk ks t)))],n⟩):=by
 have c:=aBs (n:=n) (ks:=ks) hF tv t
 rw [e] at c
 have q:=PW (n:=n) (ks:=ks) hF t
 rcases t with w | ⟨x,u⟩
 ·have w1:w=true:=(wV ..).mp (uE.1 e).1
  subst w1
  exact qI [eE c] (by kernel_rfl)
 ·have a:=Uk (n:=n) hF (x,u) h
  have k:=kS (k:=1) (At.top (o:= .list (fQ ks)) (m:=n) hF) rfl
  refine tf (xG ks (.bit x u)) (λz=> ?_) λz=> ?_
  ·rw [TG z];rw [z] at q
   exact qI [eE c,eX 3,eP 3 q] (by kernel_rfl)
  ·rw [TH z];rw [z] at q
   exact qI [eE c,eX 3,eP 3 q,eN k,eN k,eP 8 a] (by kernel_rfl)
theorem JB (hF:Fs m L) (tv:V):∀ (ts:List Tr) (ks:Bs) (x:V),ks.length+ts.length<=1000->∃x' ks' w,(∀j,30<=j->forL (ev j).B (.n .bG) aMg (ts.map Tr.enc) (MH tv x m) ⟨L++[(m,.list (fQ ks))],n⟩=some ((bif w then .next else .ret (bv false),MH tv x' m),⟨L++[(m,.list (fQ ks'))],n⟩))/\Er ts ks=bif w then some ks' else none
 | []=>λks x Y=>⟨x,ks,true,λY Y=>rfl,rfl⟩
 | t::ts=>λks x h=>by
  refine tf (aFf t||xG ks t.no) (λe=> ?_) λe=> ?_
  ·have c:=aBs (n:=n) (ks:=ks) hF tv t
   refine ⟨.d t.enc,ks,false,aBg (b:=[(.bG,.d t.enc)]) rfl ?_,by rw [HW,e];rfl⟩
   rw [e] at c
   exact qI [eE c] (by kernel_rfl)
  ·have l:(Tk ks t).length<=ks.length+1:=by
    cases t with
    | b w=>exact bJ _
    | bit x u=>show (bif _ then ks else ks++[(x,u)]).length<=_;cases xG ks (.bit x u) with
     | true=>exact bJ _
     | false=>exact bT (aN ..)
   obtain ⟨x',ks',w,i,q⟩:=JB hF tv ts (Tk ks t) (.d t.enc) (aB (cW l _) (by rw [bL,dQ 1];exact h))
   exact ⟨x',ks',w,qU (b:=[(.bG,.d t.enc)]) rfl (ZS hF tv t (bA (gM (jN _)) h) e) i,by unfold Er;rw [e];exact q⟩
end
section
variable {K:Kx} {G G1 G':GS} {T:List (Nat×O)} {m n:Nat} {o:O} {S ks:Bs} {st:St} {tv x:V} {ts:List Tr} {xs:List aE} {r:Nat}
noncomputable abbrev vZ (K:Kx) (G:GS) (T:List (Nat×O)) (m:Nat) (o:O):St:=cR K G (T++[(m,o)]) (m+1)
theorem QA (hO:Ok T m):At (vZ K G T m o) m o:=by
 show mC (core K G++(T++[(m,o)])) m=_
 rw [<-bU];exact (mJ _ hO.fs).1
theorem XI (hO:Ok T m) {o':O}:Um (vZ K G T m o) m o' (vZ K G T m o').objs:=by
 show lY (core K G++(T++[(m,o)])) m o'=core K G++(T++[(m,o')])
 rw [<-bU,<-bU];exact (mJ _ hO.fs).2 o'
theorem Ok.push (hO:Ok T m):Ok (T++[(m,o)]) (m+1):=⟨λq h=>(aV.1 h).elim (λh=>gZ (hO.1 q h)) λh=>by rw [aC.1 h];exact cI m,gK hO.2⟩
theorem aBq (h:At st r (.list xs)):nC .ne (.ref r) (.d (.list [])) st=some (bv (!xs.isEmpty),st):=aY (a:= .list xs) (aY (aY h.get rfl) rfl) (aY (a:= .list []) rfl (aY (a:=()) (by unfold Xd;rw [decide_eq_true (aB (gT ..) (by decide))];rfl) (by cases xs<;>rfl)))
theorem aFb (hO:Ok T m) (h:S.length<=4) (ne:S≠[]):method (.ref m) .Ei [] (vZ K G T m (.list (fQ S)))=some (.d .none,vZ K G T m (.list (fQ (bF S)))):=aY (a:=()) rfl (aY (a:=fQ S) (aY (QA hO).get rfl) (aY (a:=()) (by rw [aI,decide_eq_true (aB h (by decide))];rfl) (aY (a:=fQ (bF S)) (by rw [Zw h ne];rfl) (aY (a:=()) (congrArg (λl=>some ((),St.mk l (m+1))) (XI hO)) rfl))))
theorem EH (hO:Ok T m):Et (.ref m) (vZ K G T m (.list xs))=some ((xs,some m),vZ K G T m (.sJ xs)):=Pk (QA hO) (XI hO)
theorem PZ (hO:Ok T m):Og (some m) (vZ K G T m (.sJ xs))=some ((),vZ K G T m (.list xs)):=Pj (QA hO) (XI hO)
theorem Sy (ρ:List (Nm×V)) (S:Bs) (st:St):(∀j,8<=j->kL (ev j).E ρ (.sub (.v .bG) (.int 1)) (.n .bG) [] (fQ S) st=some ((S.map bY).map .int,st))/\(∀j,8<=j->kL (ev j).E ρ (.sub (.v .bG) (.int 2)) (.n .bG) [] (fQ S) st=some (S.map λk=> .bool k.2,st))/\
  ∀j,12<=j->kL (ev j).E ρ (.call .eL [.v .bG]) (.n .bG) [] (fQ S) st=some (fQ (S.map λk=>(k.1,!k.2)),st):=by
 rw [dM,show fQ (S.map λk=>(k.1,!k.2))=S.map (lI∘λk=>(k.1,!k.2)) from dM ..]
 exact ⟨Ct S λk Y=>⟨_,rfl,kG [] (by kernel_rfl)⟩,Ct S λk Y=>⟨_,rfl,kG [] (by kernel_rfl)⟩,Ct (d:=lI∘λk=>(k.1,!k.2)) S λk Y=>⟨_,rfl,kG [eC (fY (tb k) st)] (by kernel_rfl)⟩⟩
theorem Ag (w:Bool) (S:Bs) (st:St):nC .KJ (.d (.bool w)) (.d (.list (S.map λk=> .bool k.2))) st=some (bv (!S.any λk=>k.2==w),st):=aY (a:= .bool w) rfl (aY (a:=S.map λk=> .bool k.2) rfl (aY (a:=S.any λk=>k.2==w) (aY (a:=()) (by rw [show okIn (S.map λk=> .bool k.2) (.bool w)=true from decide_eq_true (aB (gT ..) (fJ 50))];rfl) (by rw [List.any_map];rfl)) rfl))
noncomputable abbrev aNi (tv x:V) (m:Nat) (S:Bs) (g b u:V):List (Nm×V):=[(.bD,mM),(.lZ,tv),(.mV,.ref m),(.bG,x),(.eO,.d (qV (S.map bY))),(.Fk,g),(.Kw,b),(.eR,u)]
abbrev Loop (K:Kx) (G:GS) (T:List (Nat×O)) (m:Nat) (tv:V) (ts:List Tr) (x:V) (ks:Bs):Prop:=∀j,30<=j->forL (ev j).B (.n .bG) aMg (ts.map Tr.enc) (MH tv .un m) (vZ K G T m (.list []))=some ((.next,MH tv x m),vZ K G T m (.list (fQ ks)))
noncomputable abbrev nA (ts:List Tr):V:= .d (.list (ts.map Tr.enc))
theorem ZT (h:∀j,30<=j->forL (ev j).B (.n .bG) aMg (ts.map Tr.enc) (MH (nA ts) .un m) (vZ K G T m (.list []))=some ((.ret (bv false),MH (nA ts) x m),vZ K G T m o)):Run 90 (some .func) .jC [mM,nA ts] (cR K G T m) (bv false) (cR K G T (m+1)):=Run.cut (A:=[(m,o)]) (B:=core K G++T) rfl [eF h] (by kernel_rfl)
theorem aOy (hO:Ok T m) (h:Loop K G T m (nA ts) ts x []):Run 90 (some .func) .jC [mM,nA ts] (cR K G T m) (bv true) (cR K G T (m+1)):=Run.cut (A:=[(m,.list [])]) (B:=core K G++T) rfl [eF h,eP 7 (zG (QA (K:=K) (G:=G) (o:= .list []) hO)),eX 3,eP 3 (aBq (QA (K:=K) (G:=G) (o:= .list []) hO))] (by kernel_rfl)
theorem aOx (hO:Ok T m) {k:Int×Bool} (h:Loop K G T m (nA ts) ts x [k]):Run 90 (some .func) .jC [mM,nA ts] (cR K G T m) (.d (tb k).enc) (cR K G T (m+1)):=
 have a:=QA (K:=K) (G:=G) (o:= .list (fQ [k])) hO
 Run.cut (A:=[(m,.list (fQ [k]))]) (B:=core K G++T) rfl [eF h,eP 7 (zG a),eX 3,eP 3 (aBq a),eP 4 (Pl a (i:=0) (x:=lI k) rfl)] (by kernel_rfl)
noncomputable def Wb (hO:Ok T m) (h:Loop K G T m (nA ts) ts x ks) (l4:ks.length<=4) (l2:2<=ks.length):List Ent:=
 have a:=QA (K:=K) (G:=G) (o:= .list (fQ ks)) hO
 have c:=Sy (MH (nA ts) x m) (bF ks) (vZ K G T m (.sJ (fQ (bF ks))))
 have c':=Sy (aNi (nA ts) x m (bF ks) .un .un .un) (bF ks) (vZ K G T m (.sJ (fQ (bF ks))))
 have i:=EH (K:=K) (G:=G) (xs:=fQ (bF ks)) hO
 have t:=PZ (K:=K) (G:=G) (xs:=fQ (bF ks)) hO
 [eF h,eP 7 (zG a),eQ (vZ K G T m (.list (fQ ks))) (b:=false) (decide_eq_false (p:=((fQ ks).length:Int)<2) (by rw [aI];exact dD.2 (cZ.2 l2))),eN (k:=1) (kS a rfl),eN (k:=1) (kS a rfl),eP 8 (aFb (K:=K) (G:=G) hO l4 λe=>by rw [e] at l2;exact absurd l2 (by decide)),eI i,eK c.1,eU 16 t,eI i,eK c.2.1,eU 16 t]
section
variable (hO:Ok T m) (h:Loop K G T m (nA ts) ts x ks) (l4:ks.length<=4) (l2:2<=ks.length)
include hO h l4 l2
theorem aMf {z:Int} {u:Bool} (r:xR G (.or ((bF ks).map bY)) jI [.ao false ((bF ks).map bY) z] z u G1 G') (e:((bF ks).any λk=>k.2==true)=false):Run 90 (some .func) .jC [mM,nA ts] (cR K G T m) (.d (Tr.enc (.bit z false))) (cR K G' T (m+1)):=by
 have q:=Ag true (bF ks) (vZ K G T m (.list (fQ (bF ks))))
 rw [e] at q
 have once:=r.run K (T++[(m,.list (fQ (bF ks)))]) (m+1) hO.push
 cases u with
 | true=>exact Run.cut (A:=[(m,.list (fQ (bF ks)))]) (B:=core K G'++T) rfl (Wb hO h l4 l2++[eP 3 q,eC once,eC (r.post K (T++[(m,.list (fQ (bF ks)))]) (m+1))]) (by kernel_rfl)
 | false=>rw [r.old rfl];exact Run.cut (A:=[(m,.list (fQ (bF ks)))]) (B:=core K G1++T) rfl (Wb hO h l4 l2++[eP 3 q,eC once]) (by kernel_rfl)
omit h l4 l2 in
theorem NN:builtin .tuple [.ref m] (vZ K G T m (.list (fQ (bF ks))))=some (.d (.tuple (((bF ks).map tb).map Tr.enc)),vZ K G T m (.list (fQ (bF ks)))):=by
 rw [dM];exact GA (QA hO)
theorem aHd {z:Int} {u:Bool} (r:xR G (.all ((bF ks).map tb)) jI [.ao true ((bF ks).map bY) z] z u G1 G') (e:((bF ks).any λk=>k.2==true)=true) (e':((bF ks).any λk=>k.2==false)=false):Run 90 (some .func) .jC [mM,nA ts] (cR K G T m) (.d (Tr.enc (.bit z true))) (cR K G' T (m+1)):=by
 have q:=Ag true (bF ks) (vZ K G T m (.list (fQ (bF ks))))
 have q':=Ag false (bF ks) (vZ K G1 T m (.list (fQ (bF ks))))
 rw [e] at q
 rw [e'] at q'
 have once:=r.run K (T++[(m,.list (fQ (bF ks)))]) (m+1) hO.push
 have s:=NN (K:=K) (G:=G) (ks:=ks) hO
 cases u with
 | true=>exact Run.cut (A:=[(m,.list (fQ (bF ks)))]) (B:=core K G'++T) rfl (Wb hO h l4 l2++[eP 3 q,eP 7 s,eC once,eP 3 q',eC (r.post K (T++[(m,.list (fQ (bF ks)))]) (m+1))]) (by kernel_rfl)
 | false=>rw [r.old rfl];exact Run.cut (A:=[(m,.list (fQ (bF ks)))]) (B:=core K G1++T) rfl (Wb hO h l4 l2++[eP 3 q,eP 7 s,eC once]) (by kernel_rfl)
end
noncomputable abbrev aOi:List Sx:=[.ex (.met (.v .bD) .gA [.lst [.tup [.str .oP,.v .Kw,.bool false],.v .bG]])]
noncomputable def PF (S:Bs) (z:Int):List Told:=(S.map λk=>iQ [(z,false),k])++[iQ ((z,true)::S.map λk=>(k.1,!k.2))]
theorem AV {U:List (Nat×O)} {z:Int} (hz:In 64 z):∀ (R:Bs) (G:GS) (x:V),(∀k,k∈R->In 64 k.1/\k.1≠z)->G.eV.length+R.length<10000->∃x',∀j,65<=j->forL (ev j).B (.n .bG) aOi (fQ R) (aNi tv x m S (.d (.list (S.map λk=> .bool k.2))) (iv z) (bv true)) (cR K G U n)=some ((.next,aNi tv x' m S (.d (.list (S.map λk=> .bool k.2))) (iv z) (bv true)),cR K (G.sT (R.map λk=>iQ [(z,false),k])) U n)
 | []=>λG x Y Y=>⟨x,λY Y=>by unfold GS.sT;rw [List.map_nil,cN];rfl⟩
 | k::R=>λG x h l=>by
  have hk:=h k (.head _)
  have r:=Ee (K:=K) (G:=G) (T:=U) (m:=n) (l:=[(z,false),k]) (λa q b=>by
   rcases aJ.1 q with rfl | q
   ·exact (aJ.1 b).elim (λe=>nomatch (cL e).2) λb=>hk.2 (cL (aC.1 b)).1.symm
   ·rw [aC.1 q] at b
    exact (aJ.1 b).elim (λe=>hk.2 (cL e).1) λb=>(show ∀u,(!u)≠u from by decide) k.2 (cL (aC.1 b)).2) (aP rfl) nofun (λa q=>(aJ.1 q).elim (λe=>by rw [e];exact hz) λq=>by rw [aC.1 q];exact hk.1) (aX (aS ..) l)
  obtain ⟨x',i⟩:=AV (U:=U) hz R (G.gB (iQ [(z,false),k])) (.d (lI k)) (λa q=>h a (.tail _ q)) (by show (G.eV++[_]).length+_<_;rw [aN,bL,dQ [_].length];exact l)
  refine ⟨x',?_⟩
  rw [show G.sT ((k::R).map λk=>iQ [(z,false),k])=(G.gB (iQ [(z,false),k])).sT (R.map λk=>iQ [(z,false),k]) by unfold GS.sT GS.gB;rw [bU];rfl]
  exact qU (b:=[(.bG,.d (lI k))]) rfl (qI [eC r] (by kernel_rfl)) i
section
variable (hO:Ok T m) (h:Loop K G T m (nA ts) ts x ks) (l4:ks.length<=4) (l2:2<=ks.length)
include hO h l4 l2
theorem aHb {z:Int} {u:Bool} (r:xR G (.all ((bF ks).map tb)) jI (PF (bF ks) z) z u G1 G') (e:((bF ks).any λk=>k.2==true)=true) (e':((bF ks).any λk=>k.2==false)=true) (l3:ks.length<=3) (hz:In 64 z) (hk:∀k,k∈bF ks->In 64 k.1/\(u=true->k.1≠z)) (c:Cs (bF ks)):Run 90 (some .func) .jC [mM,nA ts] (cR K G T m) (.d (Tr.enc (.bit z true))) (cR K G' T (m+1)):=by
 have q:=Ag true (bF ks) (vZ K G T m (.list (fQ (bF ks))))
 have q':=Ag false (bF ks) (vZ K G1 T m (.list (fQ (bF ks))))
 rw [e] at q
 rw [e'] at q'
 have once:=r.run K (T++[(m,.list (fQ (bF ks)))]) (m+1) hO.push
 have s:=NN (K:=K) (G:=G) (ks:=ks) hO
 have ls:(bF ks).length<=3:=by rw [(kP ks).length_eq];exact l3
 cases u with
 | false=>rw [r.old rfl];exact Run.cut (A:=[(m,.list (fQ (bF ks)))]) (B:=core K G1++T) rfl (Wb hO h l4 l2++[eP 3 q,eP 7 s,eC once]) (by kernel_rfl)
 | true=>
  have n:=(r.new rfl).2
  obtain ⟨x',lp⟩:=AV (K:=K) (S:=bF ks) (tv:=nA ts) (m:=m) (n:=m+1) (U:=T++[(m,.sJ (fQ (bF ks)))]) hz (bF ks) G1 x (λk m=>⟨(hk k m).1,(hk k m).2 rfl⟩) (aX (iO n ls) (by decide))
  have eq:G'=(G1.sT ((bF ks).map λk=>iQ [(z,false),k])).gB (iQ ((z,true)::(bF ks).map λk=>(k.1,!k.2))):=by rw [(r.new rfl).1];unfold GS.sT GS.gB PF;rw [bU]
  rw [eq]
  revert lp
  have lt:(G1.sT ((bF ks).map λk=>iQ [(z,false),k])).eV.length<10000:=by show (G1.eV++_).length<_;rw [aN,aI];exact aX (iO n ls) (by decide)
  revert lt
  generalize G1.sT ((bF ks).map λk=>iQ [(z,false),k])=G2
  intro lt lp
  have mm {k:Int×Bool}:k∈(bF ks).map (λk=>(k.1,!k.2))->(k.1,!k.2)∈bF ks:=λm=>(aT.1 m).elim λa w=>by rw [<-w.2,vU];exact w.1
  have rq:=Ee (K:=K) (G:=G2) (T:=T++[(m,.list (fQ (bF ks)))]) (m:=m+1) (l:=(z,true)::(bF ks).map λk=>(k.1,!k.2)) (λa q b=>by
   rcases aJ.1 q with rfl | q
   ·exact (aJ.1 b).elim (λe=>nomatch (cL e).2) λb=>(hk _ (mm b)).2 rfl rfl
   ·rcases aJ.1 b with e | b
    ·exact (hk _ (mm q)).2 rfl (cL e).1
    ·have b:=mm b
     rw [vU] at b
     exact c.no _ b (mm q)) (by rw [Le,aI];exact bK ls) nofun (λa q=>(aJ.1 q).elim (λe=>by rw [e];exact hz) λq=>(hk _ (mm q)).1) lt
  have it:=EH (K:=K) (G:=G1) (xs:=fQ (bF ks)) hO
  have th:=PZ (K:=K) (G:=G2) (xs:=fQ (bF ks)) hO
  have it2:=EH (K:=K) (G:=G2) (xs:=fQ (bF ks)) hO
  have cc:=(Sy (aNi (nA ts) x' m (bF ks) (.d (.list ((bF ks).map λk=> .bool k.2))) (iv z) (bv true)) (bF ks) (vZ K G2 T m (.sJ (fQ (bF ks))))).2.2
  have cat:=Ys [lI (z,true)] (fQ ((bF ks).map λk=>(k.1,!k.2))) (vZ K G2 T m (.list (fQ (bF ks)))) (by rw [aI,aI];exact aB (bE ls 1) (by decide))
  exact Run.cut (A:=[(m,.list (fQ (bF ks)))]) (B:=core K (G2.gB (iQ ((z,true)::(bF ks).map λk=>(k.1,!k.2))))++T) rfl (Wb hO h l4 l2++[eP 3 q,eP 7 s,eC once,eP 3 q',eI it,eF lp,eU 16 th,eI it2,eK cc,eU 16 th,eP 2 cat,eC rq]) (by kernel_rfl)
end
end
section
variable {G G':GS} {S ks:Bs} {v:Int->Int} {ts:List Tr} {j:Nat} {K:Kx} {T:List (Nat×O)} {m:Nat}
noncomputable def allB (v:Int->Int) (S:Bs):Bool:=S.all λk=>(tb k).at v
theorem allB_iff:allB v S=true↔∀k,k∈S->(tb k).at v=true:=dH
theorem Yw (ok:∀k,k∈S->nR G (tb k)) (s:iK G v) (k:Int×Bool) (m:k∈S):v k.1=0\/v k.1=1:=Tb (x:=k.1) (ok k m) s
theorem aEa (b:∀k,k∈S->v k.1=0\/v k.1=1) (e:(S.any λk=>k.2==true)=false):decide (0<L.T v (S.map bY))= !allB v S:=by
 have f {k:Int×Bool} (m:k∈S):(tb k).at v=true↔¬ 0<v k.1:=by
  have q:k.2=false:=by have:=yF.1 e k m;revert this;cases k.2<;>decide
  show ((v k.1==1)==k.2)=true↔_
  rw [q];rcases b k m with h | h<;>rw [h]<;>decide
 rw [iX,decide_eq_true_iff,oI,<-Bool.not_eq_true,allB_iff]
 refine Uq (CU _ λx m=>(aT.1 m).elim λk q=>by rw [<-q.2];rcases b k q.1 with h | h<;>rw [h]<;>decide).2 ?_
 exact ⟨λh a=>h.elim λx q=>(aT.1 q.1).elim λk w=>(f w.1).1 (a k w.1) (by rw [w.2];exact q.2),λh=>Classical.byContradiction λn=>h λk m=>(f m).2 λp=>n ⟨k.1,aT.2 ⟨k,m,rfl⟩,p⟩⟩
theorem aBt:∀l:List Int,L.T v l+L.T (λx=>1 - v x) l=l.length
 | []=>rfl
 | x::r=>by
  have i:=aBt r
  show v x+L.T v r+(1 - v x+L.T (λx=>1 - v x) r)=((r.length+1:Nat):Int)
  rw [uW,<-i,gL (v x),fT,<-fT (v x),gL (v x) (1 - v x),Hk,gL 1,<-fT];rfl
theorem ZQ (b:∀k,k∈S->v k.1=0\/v k.1=1) (e:(S.any λk=>k.2==false)=false):(L.T v (S.map bY)==((S.map bY).length:Int))=allB v S:=by
 have f {k:Int×Bool} (m:k∈S):(tb k).at v=true↔¬ 0<1 - v k.1:=by
  have q:k.2=true:=by have:=yF.1 e k m;revert this;cases k.2<;>decide
  show ((v k.1==1)==k.2)=true↔_
  rw [q];rcases b k m with h | h<;>rw [h]<;>decide
 have p:=CU (h:=λx=>1 - v x) (S.map bY) λx m=>(aT.1 m).elim λk q=>by rw [<-q.2];rcases b k q.1 with h | h<;>rw [h]<;>decide
 have o:=aBt (v:=v) (S.map bY)
 rw [iX,beq_iff_eq,allB_iff]
 refine ⟨λh k m=>(f m).2 λz=> ?_,λa=> ?_⟩
 ·have:=p.2.2 ⟨k.1,aT.2 ⟨k,m,rfl⟩,z⟩
  rw [<-o] at h;exact nI (Int.lt_add_of_pos_right _ this) h
 ·have z:L.T (λx=>1 - v x) (S.map bY)=0:=dU (dD.1 λh=>(p.2.1 h).elim λx q=>(aT.1 q.1).elim λk w=>(f w.1).1 (a k w.1) (by rw [w.2];exact q.2)) p.1
  rw [<-o,z,cA]
theorem WQ {n:Int} (b:∀k,k∈S->v k.1=0\/v k.1=1) (bn:v n=0\/v n=1):(∀t,t∈PF S n->t.kept v=true)↔v n=b2i (allB v S):=by
 have two (k) (m:k∈S):=Mn (v:=v) (l:=[(n,false),k]) λa q=>(aJ.1 q).elim (λe=>by rw [e];exact bn) λq=>by rw [aC.1 q];exact b k m
 have fin:=Mn (v:=v) (l:=(n,true)::S.map λk=>(k.1,!k.2)) λa q=>(aJ.1 q).elim (λe=>by rw [e];exact bn) λq=>(aT.1 q).elim λk w=>by rw [<-w.2];exact b k w.1
 have no (k:Int×Bool):(tb (k.1,!k.2)).at v=true↔¬ (tb k).at v=true:=by rw [show tb (k.1,!k.2)=(tb k).no from rfl,Tr.xO];cases (tb k).at v<;>decide
 have nn (u:Bool):(tb (n,u)).at v=true↔v n=b2i u:=by show ((v n==1)==u)=true↔_;rcases bn with h | h<;>rw [h]<;>cases u<;>decide
 have nn0:v n=0->v n≠1:=λh=>by rw [h];decide
 refine ⟨λh=> ?_,λh t q=>(aV.1 q).elim (λq=> ?_) λq=> ?_⟩
 ·refine tf (allB v S) (λe=> ?_) λe=> ?_
  ·rw [e]
   obtain ⟨a,q,w⟩:=fin.1 (h _ (aQ _ (.head _)))
   exact (aJ.1 q).elim (λe=>(nn true).1 (e▸w)) λq=>(aT.1 q).elim λk z=>absurd (allB_iff.1 e k z.1) ((no k).1 (by rw [z.2];exact w))
  ·rw [e]
   refine bn.resolve_right λo=>lH (e.symm.trans (allB_iff.2 λk m=> ?_))
   obtain ⟨a,q,w⟩:=(two k m).1 (h _ (aL _ (aT.2 ⟨k,m,rfl⟩)))
   exact (aJ.1 q).elim (λe=>absurd o (nn0 ((nn false).1 (e▸w)))) λq=>by rwa [aC.1 q] at w
 ·obtain ⟨k,m,rfl⟩:=aT.1 q
  refine (two k m).2 ?_
  refine tf (allB v S) (λe=>⟨k,.tail _ (.head _),allB_iff.1 e k m⟩) λe=>⟨_,.head _,(nn false).2 (by rw [h,e])⟩
 ·rw [aC.1 q]
  refine fin.2 (tf (allB v S) (λe=>⟨_,.head _,(nn true).2 (by rw [h,e])⟩) λe=> ?_)
  obtain ⟨k,m,z⟩:=List.all_eq_false.1 e
  exact ⟨_,.tail _ (aT.2 ⟨k,m,rfl⟩),(no k).2 z⟩
end
section
variable {G G':GS} {S ks:Bs} {v:Int->Int} {ts:List Tr} {j:Nat} {K:Kx} {T:List (Nat×O)} {m:Nat} {x:Int}
theorem TE (hO:Ok T m) (K:Kx) (G:GS) (l:ts.length<=1000):∃x ks w,(∀j,30<=j->forL (ev j).B (.n .bG) aMg (ts.map Tr.enc) (MH (nA ts) .un m) (vZ K G T m (.list []))=some ((bif w then .next else .ret (bv false),MH (nA ts) x m),vZ K G T m (.list (fQ ks))))/\Er ts []=bif w then some ks else none:=by
 obtain ⟨x,ks,w,i,q⟩:=JB (n:=m+1) (hO.fs (K:=K) (G:=G)) (nA ts) ts [] .un (by rw [lO,eH];exact l)
 refine ⟨x,ks,w,λj hj=> ?_,q⟩
 have i:=i j hj
 rw [bU,bU] at i
 exact i
theorem aHc (l:ts.length<=1000) (h:Er ts []=some ks) (hO:Ok T m) (K:Kx) (G:GS):∃x,Loop K G T m (nA ts) ts x ks:=by
 obtain ⟨x,ks',w,i,q⟩:=TE (ts:=ts) hO K G l
 cases w with
 | false=>exact nomatch q.symm.trans h
 | true=>exact ⟨x,by cases q.symm.trans h;exact i⟩
section
variable (g:Good X0 G) (R:nU G (j+1)) (ok:∀k,k∈S->nR G (tb k)) (l4:S.length<=4)
include ok
theorem aPm (z:(S.map bY).length<=99):Told.ok (.ao false (S.map bY) G.n)/\∀x,x∈S.map bY++[(G.n:Int)]->In (G.n+1) x:=⟨⟨by show (S.map bY++[(G.n:Int)]).length<=100;rw [aN];exact bK z,λY h=>nomatch h⟩,λx m=>(aV.1 m).elim (λm=>(aT.1 m).elim λk q=>by rw [<-q.2];exact (ok k q.1).1.mono (bJ _)) λm=>by rw [aC.1 m];exact In.self⟩
theorem JA (v v':Int->Int) (a:Agree G.n v v'):allB v S=allB v' S:=by
 have q {v v':Int->Int} (a:Agree G.n v v') (h:allB v S=true):allB v' S=true:=allB_iff.2 λk m=>by show ((v' k.1==1)==k.2)=true;rw [<-a k.1 (ok k m).1];exact allB_iff.1 h k m
 exact iX.2 ⟨q a,q a.symm⟩
include g R l4
theorem aKo (e:(S.any λk=>k.2==true)=false):∃z u G1 G',xR G (.or (S.map bY)) jI [.ao false (S.map bY) z] z u G1 G':=
 have s:=aPm ok (by rw [aI];exact aB l4 (by decide))
 yJ g _ R Qe (aP rfl) (zD s) (λv v' a=>congrArg (λt=>b2i (decide (0<t))) (Gb _ λx m=>(aT.1 m).elim λk q=>by rw [<-q.2];exact a _ (ok k q.1).1)) (λv Y=>Tf _)
  (λv Y d=>Bm.trans (by show (decide (0<L.T v (S.map bY))==(v G.n==1))=true↔_;rw [beq_iff_eq,eq_comm];exact FY (Hq.1 d))) (mD rfl)
theorem aEq (e:(S.any λk=>k.2==false)=false):∃z u G1 G',xR G (.all (S.map tb)) jI [.ao true (S.map bY) z] z u G1 G':=
 have s:=aPm ok (by rw [aI];exact aB l4 (by decide))
 have q {v}:Key.val v (.all (S.map tb))=b2i (allB v S):=congrArg b2i (Jd ..)
 yJ g _ R Qe (aP rfl) (zD s) (λv v' a=>by rw [q,q,JA ok v v' a]) (λv Y=>Tf _)
  (λv h d=>Bm.trans (by show ((L.T v (S.map bY)==((S.map bY).length:Int))==(v G.n==1))=true↔_;rw [ZQ (Yw ok h) e,beq_iff_eq,eq_comm,q];exact FY (Hq.1 d))) (mD rfl)
omit g R ok l4 in
theorem aBl {l:Bs} (h:l.length<=5) (q:∀k,k∈l->In (G.n+1) k.1):(iQ l).ok/\∀x,x∈(iQ l).scope->In (G.n+1) x:=by
 have le {p:Int×Bool->Bool}:(Lo (((bF l).filter p).map bY)).length<=5:=by
  have d:∀l:List Int,(dedup l).length<=l.length:=λl=>dR (motive:=λl=>(dedup l).length<=l.length) (bM _) (λa r i=>by show (if r.contains a then dedup r else a::dedup r).length<=r.length+1;split;exact gK i;exact bK i) l
  rw [Lo,(iP _).length_eq]
  exact aB (d _) (by rw [aI];exact aB (iZ _ _) (by rw [(kP l).length_eq];exact h))
 have mem {p:Int×Bool->Bool} {x:Int} (m:x∈Lo (((bF l).filter p).map bY)):In (G.n+1) x:=(aT.1 ((AX _).1 m)).elim λk w=>by rw [<-w.2];exact q k ((kP l).mem_iff.1 (eA.1 w.1).1)
 exact ⟨⟨by show (_++_:List Int).length<=100;rw [aN];exact aB (iO le le) (by decide),λY h=>nomatch h⟩,λx m=>(aV.1 m).elim mem mem⟩
theorem aEp:∃z u G1 G',xR G (.all (S.map tb)) jI (PF S z) z u G1 G':=
 have q {v}:Key.val v (.all (S.map tb))=b2i (allB v S):=congrArg b2i (Jd ..)
 yJ g (PF S) R Qe (by show (_++_:List Told).length<=20;rw [aN,aI];exact aB (bK l4) (by decide))
  (λt m=>(aV.1 m).elim (λm=>(aT.1 m).elim λk w=>by rw [<-w.2];exact aBl (aP rfl) λa b=>(aJ.1 b).elim (λe=>by rw [e];exact In.self) λb=>by rw [aC.1 b];exact (ok k w.1).1.mono (bJ _)) λm=>by
   rw [aC.1 m]
   exact aBl (by rw [Le,aI];exact bK l4) λa b=>(aJ.1 b).elim (λe=>by rw [e];exact In.self) λb=>(aT.1 b).elim λk w=>by rw [<-w.2];exact (ok k w.1).1.mono (bJ _))
  (λv v' a=>by rw [q,q,JA ok v v' a]) (λv Y=>Tf _) (λv h d=>by rw [q];exact WQ (Yw ok h) (Hq.1 d)) (mD rfl)
end
theorem Tj (g:Good X0 G) (R:nU G (j+1)) (ok:∀t,t∈ts->nR G t) (l:ts.length<=1000) (b:nb ts<=3):∃t G',Tm G 90 .jC [nA ts] t G' 1 1 λv=>ts.all (Tr.at v):=by
 have kk:=HV ts [] ⟨.nil,λY h=>nomatch h⟩
 cases hf:Er ts [] with
 | none=>
  rw [hf] at kk
  refine ⟨.b false,G,λK T m hO=> ?_,.refl g 1,trivial,λv Y=>(oJ.2 λh=>kk v (λY h=>nomatch h) (dH.1 h)).symm⟩
  obtain ⟨x,ks',w,i,q⟩:=TE (ts:=ts) hO K G l
  cases w with
  | true=>exact nomatch q.symm.trans hf
  | false=>exact ZT i
 | some ks=>
  rw [hf] at kk
  have kk:TV ts [] ks:=kk
  have hL (K T m) (hO:Ok T m):=aHc l hf hO K G
  have p:=kP ks
  have eq (v:Int->Int):allB v (bF ks)=ts.all (Tr.at v):=by
   rw [iX,allB_iff,dH]
   exact ⟨λh=>kk.all v λk m=>h k (p.mem_iff.2 m),λh k m=>(kk.sub k (p.mem_iff.1 m)).elim (λm=>nomatch m) (h _)⟩
  have okS:∀k,k∈bF ks->nR G (tb k):=λk m=>(kk.sub k (p.mem_iff.1 m)).elim (λm=>nomatch m) (ok _)
  have l3:ks.length<=3:=aB kk.len (by rw [lO,eH];exact b)
  rcases ks with _ | ⟨k,_ | ⟨k2,r⟩⟩
  ·exact ⟨.b true,G,λK T m hO=>(hL K T m hO).elim λx h=>aOy hO h,.refl g 1,trivial,λv Y=>eq v⟩
  ·exact ⟨tb k,G,λK T m hO=>(hL K T m hO).elim λx h=>aOx hO h,.refl g 1,okS k (.head _),λv Y=>by rw [<-eq v];exact (hV _).symm⟩
  ·have l4:(k::k2::r).length<=4:=gK l3
   have l2:2<=(k::k2::r).length:=bK (bK (fJ _))
   have l4':(bF (k::k2::r)).length<=4:=by rw [p.length_eq];exact l4
   refine tf ((bF (k::k2::r)).any λk=>k.2==true) (λe=> ?_) λe=> ?_
   ·have fin {z:Int} {u:Bool} {L:List Told} {G1 G':GS} (o:xR G (.all ((bF (k::k2::r)).map tb)) jI L z u G1 G') (v:Int->Int) (s:iK G' v):Tr.at v (.bit z true)=ts.all (Tr.at v):=by
     show ((v z==1)==true)=_
     rw [o.eq v s,<-eq v,show Key.val v (.all ((bF (k::k2::r)).map tb))=b2i (allB v (bF (k::k2::r))) from congrArg b2i (Jd ..),Pi,beq_true]
    refine tf ((bF (k::k2::r)).any λk=>k.2==false) (λe'=> ?_) λe'=> ?_
    ·obtain ⟨z,u,G1,G',o⟩:=aEp g R okS l4'
     have lz:In 64 z:=o.mem.mono (aB o.step.KU (aB (Qu R).v (by decide)))
     exact ⟨.bit z true,G',λK T m hO=>(hL K T m hO).elim λx h=>aHb hO h l4 l2 o e e' l3 lz (λk m=>⟨(okS k m).1.mono (aB (aS _ _) (aB (Qu R).v (by decide))),λhu q=>nI (okS k m).1.2 (q.trans (o.fresh hu))⟩) ⟨p.nodup_iff.2 kk.cs.nd,λk m h=>kk.cs.no k (p.mem_iff.1 m) (p.mem_iff.1 h)⟩,o.step,⟨o.mem,o.eG⟩,fin o⟩
    ·obtain ⟨z,u,G1,G',o⟩:=aEq g R okS l4' e'
     exact ⟨.bit z true,G',λK T m hO=>(hL K T m hO).elim λx h=>aHd hO h l4 l2 o e e',o.step,⟨o.mem,o.eG⟩,fin o⟩
   ·obtain ⟨z,u,G1,G',o⟩:=aKo g R okS l4' e
    refine ⟨.bit z false,G',λK T m hO=>(hL K T m hO).elim λx h=>aMf hO h l4 l2 o e,o.step,⟨o.mem,o.eG⟩,λv s=> ?_⟩
    show ((v z==1)==false)=_
    rw [o.eq v s,<-eq v,show Key.val v (.or ((bF (k::k2::r)).map bY))=b2i (decide (0<L.T v ((bF (k::k2::r)).map bY))) from rfl,Pi,aEa (Yw okS (o.step.ext.toPre.sol s)) e]
    cases allB v (bF (k::k2::r))<;>rfl
end
section
variable {G G' G1:GS} {a b t:Tr} {j d n:Nat} {v:Int->Int} {K:Kx} {T:List (Nat×O)} {m:Nat} {x y z:Int} {u w:Bool}
theorem aHa (g:Good X0 G) (R:nU G (j+1)) (ha:nR G a) (hb:nR G b):∃t G',Tm G 100 .Kb [nA [a,b]] t G' 1 1 λv=>a.at v||b.at v:=by
 obtain ⟨t,G',h⟩:=Tj (ts:=[a.no,b.no]) g R (λt m=>(aJ.1 m).elim (λe=>by rw [e];exact ha.no) λm=>by rw [aC.1 m];exact hb.no) (aP rfl) (by cases a<;>cases b<;>exact aP rfl)
 refine ⟨t.no,G',λK T m hO=>Run.same rfl [eC (fY a (cR K G T m)),eC (fY b (cR K G T m)),eC (h.run K T m hO),eC (fY t (cR K G' T (m+1)))] (by kernel_rfl),h.step,h.ok.no,λv s=> ?_⟩
 rw [Tr.xO,h.eq v s]
 show (!(a.no.at v&&(b.no.at v&&true)))=_
 rw [Tr.xO,Tr.xO]
 exact (show ∀a b:Bool,(!(!a&&(!b&&true)))=(a||b) from by decide) _ _
theorem UP (u w:Bool):Run 60 (some .func) .uH [mM,.d (Tr.enc (.bit x u)),.d (Tr.enc (.bit x w))] (cR K G T m) (bv (u != w)) (cR K G T m):=by
 cases u<;>cases w<;>exact Run.same rfl [eQ (cR K G T m) (beq_self_eq_true x)] (by kernel_rfl)
theorem aCj {u':Bool} (h:x≠y) (r:xR G (.xor (min x y) (max x y)) jI [.xor (min x y) (max x y) z] z u' G1 G') (hO:Ok T m):Run 60 (some .func) .uH [mM,.d (Tr.enc (.bit x u)),.d (Tr.enc (.bit y w))] (cR K G T m) (.d (Tr.enc (.bit z (u==w)))) (cR K G' T m):=by
 have q:=r.run K T m hO
 cases u' with
 | true=>cases u<;>cases w<;>exact Run.same rfl [eQ (cR K G T m) (xM h),eC q,eC (r.post K T m)] (by kernel_rfl)
 | false=>rw [r.old rfl];cases u<;>cases w<;>exact Run.same rfl [eQ (cR K G T m) (xM h),eC q] (by kernel_rfl)
theorem WF {a:Int} (h:a=0\/a=1):∃p,a=b2i p:=h.elim (λe=>⟨false,e⟩) λe=>⟨true,e⟩
theorem aId:∀p q r:Bool,((b2i p+b2i q+b2i r).fmod 2==0)=true↔b2i r=b2i ((b2i p==1) != (b2i q==1)):=by decide
theorem MO (ha:v x=0\/v x=1) (hb:v y=0\/v y=1) (hc:v z=0\/v z=1):(Told.xor x y z).kept v=true↔v z=b2i ((v x==1) != (v y==1)):=by
 obtain ⟨p,a⟩:=WF ha
 obtain ⟨q,b⟩:=WF hb
 obtain ⟨r,c⟩:=WF hc
 show ((v x+v y+v z).fmod 2==0)=true↔_
 rw [a,b,c];exact aId p q r
theorem aAe:(∀a b u w:Bool,((a != b)==(u==w))=((a==u) != (b==w)))/\∀a b u w:Bool,((b != a)==(u==w))=((a==u) != (b==w)):=by decide
theorem aBx (g:Good X0 G) (R:nU G (j+1)) (ha:nR G (.bit x u)) (hb:nR G (.bit y w)) (ne:x≠y):∃t G',Tm G 60 .uH [.d (Tr.enc (.bit x u)),.d (Tr.enc (.bit y w))] t G' 0 1 λv=>Tr.at v (.bit x u) != Tr.at v (.bit y w):=by
 have mm {p:Int->Prop} (h1:p x) (h2:p y):p (min x y)/\p (max x y):=by rcases lV x y with l | l;rw [iW l,gC l];exact ⟨h1,h2⟩;rw [jG l,lQ l];exact ⟨h2,h1⟩
 have i:=mm (p:=λz=>In G.n z/\G.eG z=jI) ha hb
 have bt {v} (s:iK G v) {z:Int} (h:In G.n z/\G.eG z=jI):v z=0\/v z=1:=Tb (x:=z) h s
 obtain ⟨z,u',G1,G',o⟩:=yJ g (k:= .xor (min x y) (max x y)) (λz=>[.xor (min x y) (max x y) z]) R Qe (aP rfl)
  (zD ⟨⟨aP rfl,λY h=>nomatch h⟩,λz m=>(aJ.1 m).elim (λe=>by rw [e];exact i.1.1.mono (bJ _)) λm=>(aJ.1 m).elim (λe=>by rw [e];exact i.2.1.mono (bJ _)) λm=>by rw [aC.1 m];exact In.self⟩)
  (λv v' a=>by show b2i ((v _==1) != (v _==1))=_;rw [a _ i.1.1,a _ i.2.1];rfl) (λv Y=>Tf _) (λv s d=>Bm.trans (MO (bt s i.1) (bt s i.2) (Hq.1 d))) (mD rfl)
 refine ⟨.bit z (u==w),G',λK T m hO=>aCj ne o hO,o.step,⟨o.mem,o.eG⟩,λv s=> ?_⟩
 show ((v z==1)==(u==w))=(((v x==1)==u) != ((v y==1)==w))
 rw [o.eq v s]
 refine (Pi ((v (min x y)==1) != (v (max x y)==1)) _).trans ?_
 rcases lV x y with l | l
 ·rw [iW l,gC l];exact aAe.1 ..
 ·rw [jG l,lQ l];exact aAe.2 ..
theorem JL (g:Good X0 G) (R:nU G (j+1)) (ha:nR G a) (hb:nR G b):∃t G',Tm G 60 .uH [.d a.enc,.d b.enc] t G' 0 1 λv=>a.at v != b.at v:=by
 have c (t:Tr) (st):=fY t st
 rcases a with p | ⟨x,u⟩
 ·cases p with
  | true=>exact ⟨b.no,G,λK T m Y=>Run.same rfl [eC (c b (cR K G T m))] (by kernel_rfl),.refl g 1,hb.no,λv Y=>Tr.xO.trans (Bool.true_bne _).symm⟩
  | false=>exact ⟨b,G,λK T m Y=>by cases b<;>exact Run.same rfl [] (by kernel_rfl),.refl g 1,hb,λv Y=>(wW _).symm⟩
 ·rcases b with q | ⟨y,w⟩
  ·cases q with
   | true=>exact ⟨.bit x !u,G,λK T m Y=>Run.same rfl [eC (c (.bit x u) (cR K G T m))] (by kernel_rfl),.refl g 1,ha,λv Y=>(Tr.xO (t:= .bit x u)).trans (Bool.bne_true _).symm⟩
   | false=>exact ⟨.bit x u,G,λK T m Y=>Run.same rfl [] (by kernel_rfl),.refl g 1,ha,λv Y=>(Qb _).symm⟩
  ·by_cases e:x=y
   ·subst e
    exact ⟨.b (u != w),G,λK T m Y=>UP u w,.refl g 1,trivial,λv Y=>by show (u != w)=(((v x==1)==u) != ((v x==1)==w));exact (show ∀a u w:Bool,(u != w)=((a==u) != (a==w)) from by decide) _ _ _⟩
   ·exact aBx g R ha hb e
end
noncomputable def mX (z:Int) (q:Nat) (A B:List (Nat×O)) (G:GS) (P:List Tr) (m:Nat):St:=cR ⟨z,.ref q⟩ G (A++(q,.list (P.map Tr.enc))::B) m
structure Oo (q:Nat) (A B:List (Nat×O)) (m:Nat):Prop where
 fa:Fs q A
 fq:6<=q
 fm:q<m
 fb:Fs m B
noncomputable def aNj (n:Nat) (f:Nm) (vs:List V) (G:GS) (P:List Tr) (v:V) (G':GS) (P':List Tr) (d:Nat):Prop:=∀z q A B m,Oo q A B m->Run n (some .func) f (mM::vs) (mX z q A B G P m) v (mX z q A B G' P' (m+d))
theorem Oo.ok {q m:Nat} {A B:List (Nat×O)} (h:Oo q A B m) (o:O):Ok (A++(q,o)::B) m:=⟨λp hp=>(aV.1 hp).elim (λhp=>lS (h.fa p hp) h.fm) λhp=>(aJ.1 hp).elim (λe=>by rw [e];exact h.fm) (h.fb p),iN (aX h.fq h.fm)⟩
theorem Oo.up {q m:Nat} {A B:List (Nat×O)} (h:Oo q A B m) (d:Nat):Oo q A B (m+d):=⟨h.fa,h.fq,bA h.fm (aS m d),λp hp=>bA (h.fb p hp) (aS m d)⟩
theorem Me.p {n d:Nat} {f:Nm} {vs:List V} {G G':GS} {v:V} (h:Me n f vs G v G' d) (P:List Tr):aNj n f vs G P v G' P d:=λz q A B m o=>h ⟨z,.ref q⟩ (A++(q,.list (P.map Tr.enc))::B) m (o.ok _)
noncomputable def jQ (P:List Tr) (t:Tr):List Tr:=match t with
 | .b true=>P
 | t=>P++[t]
section
variable {z:Int} {q m:Nat} {A B:List (Nat×O)} {G:GS} {P:List Tr} {t:Tr}
theorem aKb (h:Oo q A B m) {o:O}:mC (core ⟨z,.ref q⟩ G++(A++(q,o)::B)) q=some o/\∀o',lY (core ⟨z,.ref q⟩ G++(A++(q,o)::B)) q o'=core ⟨z,.ref q⟩ G++(A++(q,o')::B):=by
 have f:=mJ (r:=q) (o:=o) (M:=B) (core ⟨z,.ref q⟩ G++A) (Ok.fs (T:=A) (m:=q) ⟨h.fa,h.fq⟩)
 rw [bU] at f
 exact ⟨f.1,λo'=>(f.2 o').trans (bU ..)⟩
theorem sR {G':GS} {P':List Tr} {m':Nat}:(mX z q A B G P m).objs.length=(mX z q A B G' P' m').objs.length:=by
 show (core ⟨z,.ref q⟩ G++(A++(q,O.list (P.map Tr.enc))::B)).length=(core ⟨z,.ref q⟩ G'++(A++(q,O.list (P'.map Tr.enc))::B)).length
 rw [aN,aN,aN,aN];rfl
theorem Ab (l:P.length<=1000) (t:Tr):aNj 40 .Hz [.d t.enc] G P (.d .none) G (jQ P t) 0:=λz q A B m h=>by
 have a:At (mX z q A B G P m) q (.list (P.map Tr.enc)):=(aKb h).1
 have k:=pR (x:=t.enc) (L:=(mX z q A B G (P++[t]) m).objs) a (by rw [aI];exact aX l (by decide)) (by unfold Um mX;rw [cS];exact (aKb h).2 _)
 rcases t with ⟨_ | _⟩ | ⟨x,u⟩
 ·exact Run.same sR [eN (k:=1) (kS a rfl),eN (k:=1) (kS a rfl),eP 8 k] (by kernel_rfl)
 ·exact Run.same rfl [] (by kernel_rfl)
 ·exact Run.same sR [eN (k:=1) (kS a rfl),eN (k:=1) (kS a rfl),eP 8 k] (by kernel_rfl)
end
structure aMm (G:GS) (a b:Vl) (k:Int) (r:Vl) (B:Int):Prop where
 run:∀ {st:St},Fs st.next st.objs->Run 32 none .pF [.d a.enc,.d b.enc,iv k] st (.d r.enc) ⟨st.objs,st.next+1⟩
 ok:wE G r.sm B
 eq:∀v,r.sm.at v=a.sm.at v+k*b.sm.at v
 ns:r.Pc=false
section
variable {G:GS} {k A B:Int} {g:Int->Int->Int} {a b:Vl} {v:Int->Int}
theorem Zd (h:∀x a b,g x (a+b)<=g x a+g x b):∀Q l,S g (addQ k l Q)<=S g l+S (λx a=>g x (k*a)) Q
 | []=>λl=>pP (cA _).symm
 | p::Q=>λl=>aD (Zd h Q _) (by show _<=S g l+(g p.1 (k*p.2)+S _ Q);rw [<-fT];exact bQ (TQ h l) _)
theorem Vn {y:Int}:∀Q l,y∈keys (addQ k l Q)->y∈keys l\/y∈keys Q
 | []=>λl h=> .inl h
 | p::Q=>λl h=>(Vn Q _ h).elim (λh=>(Rx l h).imp id λe=>by rw [e];exact .head _) λh=> .inr (.tail _ h)
theorem JF (c:Int):∀l:List (Int×Int),S (λx a=>c*g x a) l=c*S g l
 | []=>(rW c).symm
 | p::l=>by show c*g p.1 p.2+S _ l=c*(g p.1 p.2+S g l);rw [JF c l,uB]
theorem aEr (l:List (Int×Int)) (c:Int):(aOh l c).sm=⟨l,c⟩/\(aOh l c).Pc=false:=by cases l<;>exact ⟨rfl,rfl⟩
theorem MC (h:∀x a b,g x (a+b)=g x a+g x b) (Q l:List (Int×Int)):S g (addQ k l Q)=S g l+S (λx a=>g x (k*a)) Q:=by
 have n:=Zd (k:=k) (g:=λx a=> -g x a) (λx a b=>by rw [h,yG];exact aW _) Q l
 rw [CW,CW,CW (g:=λx a=>g x (k*a)),<-yG] at n
 exact dU (Zd (λx a b=>pP (h x a b)) Q l) (Int.le_of_neg_le_neg n)
theorem VU (nd:(keys a.sm.parts).Nodup) (v:Int->Int):(⟨LB (addQ k a.sm.parts b.sm.parts),a.sm.c+k*b.sm.c⟩:Sm).at v=a.sm.at v+k*b.sm.at v:=by
 show a.sm.c+k*b.sm.c+S _ (LB _)=a.sm.c+S _ a.sm.parts+k*(b.sm.c+S (λx a=>a*v x) b.sm.parts)
 rw [aBu (g:=λx a=>a*v x) (λx=>Je _) (xQ _ _ nd),MC (λx a b=>Int.add_mul ..),yR (h:=λx a=>k*(a*v x)) b.sm.parts (λp Y=>Gs ..),JF,uB,fT,fT,yI (k*b.sm.c)]
theorem aHe (w:Int) (h:0<=w) (a b:Int):ab (a+b)*w<=ab a*w+ab b*w:=by rw [<-Int.add_mul];exact tA (Zb a b) h
theorem KG (nd:(keys a.sm.parts).Nodup):Ib G ⟨LB (addQ k a.sm.parts b.sm.parts),a.sm.c+k*b.sm.c⟩<=Ib G a.sm+ab k*Ib G b.sm:=by
 have w (x:Int):0<=tP (G.eG x)+1:=wU (DR _) (by decide)
 have m:=Zd (k:=k) (g:=λx a=>ab a*(tP (G.eG x)+1)) (λx=>aHe _ (w x)) b.sm.parts a.sm.parts
 rw [yR (h:=λx a=>ab k*(ab a*(tP (G.eG x)+1))) b.sm.parts (λp Y=>by rw [Tl,Gs]),JF] at m
 have c:=Zb a.sm.c (k*b.sm.c)
 rw [Tl] at c
 show ab (a.sm.c+k*b.sm.c)+S _ (LB _)<=ab a.sm.c+S _ a.sm.parts+ab k*(ab b.sm.c+S (λx a=>ab a*(tP (G.eG x)+1)) b.sm.parts)
 rw [aBu (g:=λx a=>ab a*(tP (G.eG x)+1)) (λx=>Je _) (xQ (k:=k) b.sm.parts _ nd),uB,fT,yI (S _ a.sm.parts),<-fT]
 exact jU c m
theorem vY (oa:wE G a.sm A) (ob:wE G b.sm B) (k2:ab k=1\/ab k=2) (h:A+ab k*B<=60):∃r,aMm G a b k r (A+ab k*B):=by
 have k0:1<=ab k:=by rcases k2 with e | e<;>rw [e]<;>decide
 have B0:0<=B:=aD (rH _) ob.con
 have kB:B<=ab k*B:=by have:=tA k0 B0;rwa [iE] at this
 have m:=aEr (LB (addQ k a.sm.parts b.sm.parts)) (a.sm.c+k*b.sm.c)
 have ms:=aD (KG (k:=k) (b:=b) (G:=G) oa.nd) (jU oa.Ib (dW ob.Ib (rH k)))
 refine ⟨_,λhF=>NX oa.nd (cZ.1 ?_) ?_ ?_ ?_ hF,?_,λv=>by rw [m.1];exact VU oa.nd v,m.2⟩
 ·rw [uW];exact aD (jU oa.len (aD ob.len kB)) (aD h (by decide))
 ·rw [yR (h:=λx a=>ab k*TL x a) b.sm.parts (λp Y=>Tl ..),JF]
  exact aD (jU oa.abs (dW ob.abs (rH k))) (aD h (by decide))
 ·exact aD (Zb ..) (aD (jU oa.con (by rw [Tl];exact dW ob.con (rH k))) (aD h (by decide)))
 ·exact zI.small (by rcases k2 with e | e<;>(unfold zI;rw [e];decide))
 ·rw [m.1]
  exact ⟨LA (xQ _ _ oa.nd),λp q=>⟨(Vn _ _ (IL q).1).elim (λm=>(aT.1 m).elim λp w=>by rw [<-w.2];exact (oa.mem p w.1).1) λm=>(aT.1 m).elim λp w=>by rw [<-w.2];exact (ob.mem p w.1).1,(IL q).2⟩,ms⟩
end
section
variable {X:Key->Int->Prop} {G G1 G':GS} {k:Key} {D:mY} {t:Told} {z x y:Int} {u:Bool} {xs:List aE} {v:Int->Int} {j:Nat} {r:Tr}
theorem Rr (hk:k.enc= .tuple xs) (ht:t.enc= .tuple (xs++[.int z])) (hl:xs.length<=100) (o:xR G k D [t] z u G1 G'):Me 60 .jP [.d k.enc,.d (eJ D)] G (.d (Sm.enc ⟨[(z,1)],0⟩)) G' 0:=λK T m hO=>by
 have q:=o.run K T m hO
 rw [hk] at q⊢
 cases u with
 | true=>
  have p:=o.post K T m
  rw [ht] at p
  exact Run.same rfl [eC q,eP 2 (Pg xs [.int z] (cR K G1 T m) (aB (bK hl) (by decide))),eC p] (by kernel_rfl)
 | false=>rw [o.old rfl];exact Run.same rfl [eC q] (by kernel_rfl)
theorem Good.post (g:Good X G) (h:t.ok/\∀x,x∈t.scope->In G.n x):Good X (G.gB t):=⟨g.dm,λu m=>(aV.1 m).elim (g.sc u) λm=>by rw [aC.1 m];exact h,λk z m=>have c:=g.key k z m;⟨⟨c.1.1,by cases k<;>exact c.1.2⟩,c.2.imp id λc v s=>c v ⟨s.eG,λu m=>s.told u (aL _ m)⟩⟩⟩
theorem iK.post (s:iK G v) (h:t.kept v=true):iK (G.gB t) v:=⟨s.eG,λu m=>(aV.1 m).elim (s.told u) λm=>by rw [aC.1 m];exact h⟩
theorem iK.Lk (s:iK (G.gB t) v):iK G v/\t.kept v=true:=⟨⟨s.eG,λu m=>s.told u (aL _ m)⟩,s.told t (aQ _ (.head _))⟩
theorem JC (k:Key) (D:mY):Pre G (G.add k D):=Pre.add (L:=[]) rfl (cN _).symm
theorem Good.free (g:Good X0 G) (hD:oQ D) (kd:xF (G.add k D) G.n k):Good (λq w=>q=k/\w=G.n) (G.add k D):=by
 have p:=JC (G:=G) k D
 have n:(G.add k D).n=G.n+1:=sS rfl
 refine ⟨λx hx=> ?_,λt m=>⟨(g.sc t m).1,λx hx=>((g.sc t m).2 x hx).mono p.n⟩,λq z m=>(aV.1 m).elim (λm=>have c:=g.key q z m;⟨⟨c.1.1.mono p.n,c.1.2.mono p c.1.1⟩,.inr λv h=>c.2.resolve_left id v (p.sol h)⟩) λm=> ?_⟩
 ·rw [n] at hx
  exact hx.last.elim (λhx=>by rw [p.eG x hx];exact g.dm x hx) λe=>by rw [e,mD (G':=G.add k D) rfl];exact hD
 ·have e:=cL (aC.1 m)
  rw [e.1,e.2]
  exact ⟨⟨by rw [n];exact In.self,kd⟩,.inl ⟨rfl,rfl⟩⟩
theorem MZ (h:nR G r):wE G (Vl.t r).sm 3:=by
 rcases r with ⟨_ | _⟩ | ⟨x,u⟩
 ·exact ⟨.nil,λY m=>(nomatch m),show ab (b2i false)+0<=3 by decide⟩
 ·exact ⟨.nil,λY m=>(nomatch m),show ab (b2i true)+0<=3 by decide⟩
 ·have q {a c:Int} (ha:a≠0) (hm:ab c+(ab a*(tP jI+1)+0)<=3):wE G ⟨[(x,a)],c⟩ 3:=⟨fP ..,λp m=>by rw [aC.1 m];exact ⟨h.1,ha⟩,by show ab c+(ab a*(tP (G.eG x)+1)+0)<=3;rw [h.2];exact hm⟩
  cases u with
  | true=>exact q (by decide) (by decide)
  | false=>exact q (by decide) (by decide)
theorem aAh (h:nR G r) (s:iK G v):(Vl.t r).sm.at v=b2i (r.at v):=by
 rcases r with ⟨_ | _⟩ | ⟨x,u⟩
 ·rfl
 ·rfl
 ·obtain ⟨p,e⟩:=WF (Tb (x:=x) h s)
  cases u with
  | true=>show 0+(1*v x+0)=b2i ((v x==1)==true);rw [e];cases p<;>rfl
  | false=>show 1+(-1*v x+0)=b2i ((v x==1)==false);rw [e];cases p<;>rfl
noncomputable def QK (x z y:Int):Told:= .imp x ⟨.eq,[1,-1],[z,y],0⟩
noncomputable def Sf (x z c:Int):Told:= .imp x ⟨.eq,[1],[z],c⟩
theorem IF (z y:Int) {p:Bool} (h:v x=b2i p):(QK x z y).kept v=true↔(p=true->v z=v y):=by
 show (!(v x==1)||(1*v z+(-1*v y+0) - 0==0))=true↔_
 rw [h,Od,beq_iff_eq,iE,Dx,iE,cA,Int.sub_zero,<-nH,iV]
 cases p
 ·exact ⟨λY q=>(nomatch q),λY=> .inl rfl⟩
 ·exact ⟨λq Y=>q.resolve_left nofun,λq=> .inr (q rfl)⟩
theorem IE (z c:Int) {p:Bool} (h:v x=b2i p):(Sf x z c).kept v=true↔(p=true->v z=c):=by
 show (!(v x==1)||(1*v z+0 - c==0))=true↔_
 rw [h,Od,beq_iff_eq,iE,cA,iV]
 cases p
 ·exact ⟨λY q=>(nomatch q),λY=> .inl rfl⟩
 ·exact ⟨λq Y=>q.resolve_left nofun,λq=> .inr (q rfl)⟩
structure aHl (G:GS) (y:Int) (t:Tr) (D:mY) (z:Int) (G':GS):Prop where
 run:Me 80 .pD [iv y,.d t.enc,.d (eJ D)] G (iv z) G' 0
 step:Step X0 G G' 3
 mem:In G'.n z
 eG:G'.eG z=D
 eq:∀v,iK G' v->v z=bif t.at v then v y else lo D
theorem pW.post {k e:Nat} (h:pW G k (e+1)):pW (G.gB t) k e:=⟨h.v,by show (G.eV++[t]).length+_+_<=_;rw [aN];exact aB (bT (by show _+1+_+_=_;rw [lD _ 1,bL _ 1,dQ 1])) h.t,h.m⟩
theorem pW.aNn {k e:Nat} (h:pW G k (e+18)):pW G k e:=⟨h.v,aB (aS _ 18) h.t,h.m⟩
theorem JQ {K:Kx} {G2 G3 G4 G5:GS} {T:List (Nat×O)} {m:Nat} {x1 x2 c:Int} {D:aE} (h1:Run 36 (some .func) .sD [mM,.d (.tuple [.str Nm.Ow.str,.int y,r.enc,D]),.d D] (cR K G T m) (.d (.tuple [.int z,.bool true])) (cR K G1 T m)) (h2:Run 60 (some .func) .jV [mM,.d r.enc] (cR K G1 T m) (iv x1) (cR K G2 T m))
  (h3:Run 12 (some .flat) .pE [DA,.d (QK x1 z y).enc] (cR K G2 T m) (.d .none) (cR K G3 T m)) (h4:Run 60 (some .func) .jV [mM,.d r.no.enc] (cR K G3 T m) (iv x2) (cR K G4 T m)) (hl:Run 9 none .Bq [.d D] (cR K G4 T m) (iv c) (cR K G4 T m))
  (h5:Run 12 (some .flat) .pE [DA,.d (Sf x2 z c).enc] (cR K G4 T m) (.d .none) (cR K G5 T m)):Run 80 (some .func) .pD [mM,iv y,.d r.enc,.d D] (cR K G T m) (iv z) (cR K G5 T m):=
 Run.same rfl [eC h1,eC h2,eC h3,eC (fY r (cR K G3 T m)),eC h4,eC hl,eC h5] (by kernel_rfl)
section
variable (g:Good X0 G) (hy:In G.n y) (hr:nR G r) (hD:oQ D) (hin:∀v,iK G v->r.at v=true->inD D (v y))
include hy hr hD hin
theorem JR {G2 G4 G5:GS} {x1 x2:Int} (p1:Pre G G1) (n1:G1.n=G.n+1) (d1:G1.eG G.n=D) (up:∀v,iK G v->∀a,inD D a->iK G1 (upd v G.n a)) (e12:Ext G1 G2) (q1:∀v,iK G2 v->v x1=(Vl.t r).sm.at v) (g5:Good (λq w=>q= .uF y r D/\w=G.n) G5) (e34:Ext (G2.gB (QK x1 G.n y)) G4)
  (q2:∀v,iK G4 v->v x2=(Vl.t r.no).sm.at v) (h5:G5=G4.gB (Sf x2 G.n (lo D))) (n5:G5.n<=G.n+3):Good X0 G5/\Ext G G5/\(In G5.n (G.n:Int)/\G5.eG G.n=D)/\∀v,iK G5 v->v G.n=bif r.at v then v y else lo D:=by
 subst h5
 have p2:=p1.trans e12.toPre
 have p4:Pre G2 G4:=⟨e34.n,e34.eG,λt m=>e34.told t (aL _ m)⟩
 have p5:Pre G (G4.gB (Sf x2 G.n (lo D))):=p2.trans ⟨p4.n,p4.eG,λt m=>aL _ (p4.told t m)⟩
 have z1:In G1.n (G.n:Int):=by rw [n1];exact In.self
 have rv {v v':Int->Int} (a:Agree G.n v v'):r.at v=r.at v':=by
  cases r with
  | b w=>rfl
  | bit x u=>show ((v x==1)==u)=_;rw [a x hr.1];rfl
 have dz:G4.eG G.n=D:=(p4.eG _ (z1.mono e12.n)).trans ((e12.eG _ z1).trans d1)
 have A {v} (s:iK G2 v):v x1=b2i (r.at v):=(q1 v s).trans (aAh (hr.mono p2) s)
 have B {v} (s:iK G4 v):v x2=b2i (!r.at v):=(q2 v s).trans ((aAh (hr.no.mono (p2.trans p4)) s).trans (congrArg b2i Tr.xO))
 have det {v} (s:iK (G4.gB (Sf x2 G.n (lo D))) v):v G.n=bif r.at v then v y else lo D:=by
  have s4:=s.Lk
  have s3:=(e34.toPre.sol s4.1).Lk
  have a:=(IF G.n y (A s3.1)).1 s3.2
  have b:=(IE G.n (lo D) (B s4.1)).1 s4.2
  revert a b
  cases r.at v with
  | true=>exact λa Y=>a rfl
  | false=>exact λY b=>b rfl
 have un {v v'} (s:iK (G4.gB (Sf x2 G.n (lo D))) v) (s':iK (G4.gB (Sf x2 G.n (lo D))) v') (q:Agree G.n v v'):Agree G4.n v v':=by
  have c1:Agree G1.n v v':=λx hx=>by
   rw [n1] at hx
   exact hx.last.elim (q x) λe=>by rw [e,det s,det s',rv q,q y hy]
  have t4:=s.Lk.1
  have t4':=s'.Lk.1
  exact e34.un v v' t4 t4' (e12.un v v' (e34.toPre.sol t4).Lk.1 (e34.toPre.sol t4').Lk.1 c1)
 refine ⟨⟨g5.dm,g5.sc,λk z m=>⟨(g5.key k z m).1,.inr λv s=> ?_⟩⟩,⟨p5,λv s=> ?_,λv v' s s' q=>un s s' q,λi hi hi' v v' s s' q=> ?_⟩,⟨z1.mono (aB e12.n p4.n),dz⟩,λv=>det⟩
 ·exact (g5.key k z m).2.elim (λe=>by rw [e.1,e.2];exact det s) λh=>h v s
 ·have hv:inD D (bif r.at v then v y else lo D):=tf (r.at v) (λe=>by rw [e];exact hin v s e) λe=>by rw [e];exact hD.aAx
  obtain ⟨w,sw,aw⟩:=e12.ex _ (up v s _ hv)
  have a1:Agree G.n v w:=λx hx=>(zY x hx).trans (aw x (hx.mono p1.n))
  have wz:w G.n=bif r.at w then w y else lo D:=by rw [<-aw _ z1,Jm,<-rv a1,<-a1 y hy]
  have s3:=sw.post (t:=QK x1 G.n y) ((IF G.n y (A sw)).2 λe=>by rw [wz,e];rfl)
  obtain ⟨w',sw',aw'⟩:=e34.ex _ s3
  have a2:Agree G.n w w':=aw'.mono p2.n
  refine ⟨w',sw'.post ((IE G.n (lo D) (B sw')).2 λe=> ?_),λx hx=>(a1 x hx).trans (a2 x hx)⟩
  rw [<-aw' _ (z1.mono e12.n),wz,rv a2]
  revert e
  cases r.at w' with
  | true=>exact λh=>nomatch h
  | false=>exact λY=>rfl
 ·rcases Iu i (G.n+3) with l | l
  ·exact q.mono (Nat.sub_le_of_le_add (jZ l))
  ·have e:i=(G4.gB (Sf x2 G.n (lo D))).n:=Nx hi' (aB n5 l)
   have so {u} (h:PS (G4.gB (Sf x2 G.n (lo D))) i u):iK (G4.gB (Sf x2 G.n (lo D))) u:=⟨λx hx=>h.eG x (e▸hx),λt m=>h.told t m λx hx=>by rw [e];exact ((g5.sc t m).2 x hx).2⟩
   exact (un (so s) (so s') q).mono (aB (Bb i 2) (bT e))
include g in
theorem Zr (R:nU G (j+3)):∃z G',aHl G y r D z G':=by
 cases hf:G.find (.uF y r D) with
 | some z=>
  have f:=g.found hf
  exact ⟨z,G,λK T m hO=>Run.same rfl [eC (Qy (D:=D) hf K T m hO)] (by kernel_rfl),.refl g 3,f.1,f.2.1,f.2.2.resolve_left id⟩
 | none=>
  have kd:xF (G.add (.uF y r D) D) G.n (.uF y r D):=mD rfl
  have g1:=g.free hD kd
  have p1:=JC (G:=G) (.uF y r D) D
  have n1:(G.add (.uF y r D) D).n=G.n+1:=sS rfl
  have sm:∀p,p∈D->zI p.1/\zI p.2:=λp m=>by
   have a:=Ss hD.ok p m
   exact (wF (B:=1000) (tJ hD.ok ⟨p,m,aW _,a⟩).1 a (aD (tJ hD.ok ⟨p,m,a,aW _⟩).2 hD.hi) (aW _)).1 p (.head _)
  have once:=Qz hf sm (R.le (fN 1 (j+2)))
  have room (k e) (R:pW G (k+1) e):pW (G.add (.uF y r D) D) k (e+20):=⟨by rw [n1,bL,dQ 1];exact R.v,by show G.eV.length+_+_<=_;rw [dQ e,<-bL,bL _ _ 20];exact R.t,by rw [n1];show (G.made++_).length<=_;rw [aN];exact bK R.m⟩
  have up:∀v,iK G v->∀a,inD D a->iK (G.add (.uF y r D) D) (upd v G.n a):=λv s a h=>(g.aIx s).new rfl (cN _).symm (by rw [Jm];exact h) λY m=>nomatch m
  have d1:(G.add (.uF y r D) D).eG G.n=D:=mD rfl
  revert g1 p1 n1 once room up d1
  generalize G.add (.uF y r D) D=G1
  intro g1 p1 n1 once room up d1
  have R1:=room (j+2) 0 R
  obtain ⟨x1,G2,w1⟩:=Ho g1 nofun (gQ (.t r)) (MZ (hr.mono p1)) (by decide) R1.e0
  have p2:=p1.trans w1.step.ext.toPre
  have z1:In G1.n (G.n:Int):=by rw [n1];exact In.self
  have z2:In G2.n (G.n:Int):=z1.mono w1.step.ext.n
  have g3:=w1.step.good.post (t:=QK x1 G.n y) ⟨⟨aP rfl,λl m=>by rw [aC.1 m];rfl⟩,λx m=>(aJ.1 m).elim (λe=>by rw [e];exact w1.mem) λm=>(aJ.1 m).elim (λe=>by rw [e];exact z2) λm=>by rw [aC.1 m];exact hy.mono p2.n⟩
  have R2:=w1.step.room (j+1) _ R1
  obtain ⟨x2,G4,w2⟩:=Ho g3 nofun (gQ (.t r.no)) (MZ (hr.no.mono (p2.trans ⟨bM _,λY Y=>rfl,λt m=>aL _ m⟩))) (by decide) R2.post.e0
  have z4:In G4.n (G.n:Int):=z2.mono w2.step.ext.n
  have g5:=w2.step.good.post (t:=Sf x2 G.n (lo D)) ⟨⟨aP rfl,λl m=>by rw [aC.1 m];rfl⟩,λx m=>(aJ.1 m).elim (λe=>by rw [e];exact w2.mem) λm=>by rw [aC.1 m];exact z4⟩
  have R4:=w2.step.room j _ R2.post
  have n5:G4.n<=G.n+3:=aB w2.step.KU (bK (aB w1.step.KU (bK (bT n1))))
  have x:=JR hy hr hD hin p1 n1 d1 up w1.step.ext w1.eq g5 w2.step.ext w2.eq rfl n5
  exact ⟨G.n,_,λK T m hO=>JQ (once K T m hO) (w1.run K T m hO) (Aa K T m _ R2.tl) (w2.run K T m hO) (Qs hD.ne _) (Aa K T m _ R4.tl),⟨x.1,x.2.1,λk e R=>((w2.step.room k _ (w1.step.room (k+1) _ (room (k+2) e R)).post).post.aNn),n5⟩,x.2.2.1.1,x.2.2.1.2,x.2.2.2⟩
end
end
section
variable {x y r z l h f a b k:Int}
theorem HJ (hr:0<=r) (h:r<=z):(z - r).natAbs<=z.natAbs:=cZ.1 (by rw [Dy (Int.sub_nonneg.2 h),Dy (aD hr h)];exact Int.sub_le_self z hr)
theorem near {n:Nat} (hr:0<=r) (hz:0<=z) (h1:r.natAbs<n) (h2:z.natAbs<n):(z - r).natAbs<n:=(lV r z).elim (λl=>aX (HJ hr l) h2) λl=>by
 rw [<-mQ,Na];exact aX (HJ hz l) h1
theorem KB (hr:r.natAbs<y.natAbs) (hs:z.natAbs<y.natAbs) (h1:0<=r*x) (h2:0<=z*x) (d1:y∣x - r) (d2:y∣x - z):r=z:=by
 have d:y∣z - r:=by have:=Int.dvd_sub d1 d2;rwa [Int.sub_sub,<-rX,gL r x,rX,<-Int.sub_sub,Int.sub_self,Bf,Na] at this
 have fin (q:(z - r).natAbs<y.natAbs):r=z:=(iV.1 (oZ d q)).symm
 rcases Jh x 0 with n | e | p
 ·have a:=rU.2 (tX h1 n)
  have b:=rU.2 (tX h2 n)
  have q:=near a b (by rw [mQ];exact hr) (by rw [mQ];exact hs)
  rw [Dw,gL,<-nH,<-mQ,Na] at q
  exact fin q
 ·have z0 {w:Int} (q:w.natAbs<y.natAbs) (d:y∣x - w):w=0:=oZ (by rw [e,Bf] at d;exact Int.dvd_neg.1 d) q
  rw [z0 hr d1,z0 hs d2]
 ·exact fin (near (tY h1 p) (tY h2 p) hr hs)
theorem GI (hy:y≠0):(x.tmod y).natAbs<y.natAbs/\0<=x.tmod y*x/\y∣x - x.tmod y:=by
 refine ⟨by rw [uX];exact wO _ (rV.2 hy),?_,⟨x.tdiv y,by rw [Bg,Int.sub_sub_self]⟩⟩
 rcases lV 0 x with h | h
 ·exact Dz (uV y h) h
 ·exact Int.mul_nonneg_of_nonpos_of_nonpos (by have:=uV y (rU.2 h);rw [Int.neg_tmod] at this;exact zA this) h
theorem YI (hy:y≠0):aFw x y r=true↔r=x.tmod y:=by
 unfold aFw
 rw [kY,kY,decide_eq_true_iff,decide_eq_true_iff,beq_iff_eq,gI,gI,fL]
 have t:=GI (x:=x) hy
 exact ⟨λh=>KB h.1 t.1 h.2.1 t.2.1 (rA h.2.2) t.2.2,λe=>by rw [e];exact ⟨t.1,t.2.1,Int.fmod_eq_zero_of_dvd t.2.2⟩⟩
theorem aFv (hy:y≠0) (w:Bool):aFw x y (bif w then x - y*z else z)=true↔z=bif w then x.tdiv y else x.tmod y:=by
 rw [YI hy]
 cases w with
 | false=>exact Bi
 | true=>
  show x - y*z=x.tmod y↔z=x.tdiv y
  rw [Bg]
  exact ⟨λe=>xY hy (Int.neg_inj.1 (pZ (a:=x) (by rw [<-nH,<-nH];exact e))),λe=>by rw [e]⟩
theorem aFy (hl:l<=x) (hh:x<=h) (hf:f<=y):(bif decide (0<=l)&&decide (0<=f) then 0 else -(max (ab l) (ab h)))<=x.tdiv y/\x.tdiv y<=max (ab l) (ab h):=by
 have m:(x.tdiv y).natAbs<=x.natAbs:=by rw [Ck];exact uU _ _
 have a:ab (x.tdiv y)<=max (ab l) (ab h):=by
  rw [gI]
  refine aD (cZ.2 m) ?_
  rw [<-gI]
  exact kM.2 ⟨aD (jT (cH ..)) (aD (kM.1 (aW (ab l))).1 hl),aD hh (aD (kM.1 (aW (ab h))).2 (dJ ..))⟩
 refine ⟨?_,(kM.1 a).2⟩
 refine tf (decide (0<=l)&&decide (0<=f)) (λe=> ?_) λe=>by rw [e];exact (kM.1 a).1
 have e':=aM.1 e
 rw [e]
 exact Int.tdiv_nonneg (aD (of_decide_eq_true e'.1) hl) (aD (of_decide_eq_true e'.2) hf)
theorem aEo (hy:y≠0) (hl:l<=x) (hh:x<=h) (hf:f<=y) (hk:y<=k) {m:Int} (hm:m=min (max (ab l) (ab h)) (max (ab f) (ab k) - 1)):(bif decide (0<=l) then 0 else -m)<=x.tmod y/\x.tmod y<=(bif decide (h<=0) then 0 else m):=by
 have t:=GI (x:=x) hy
 have bd {u w c:Int} (h1:u<=c) (h2:c<=w):ab c<=max (ab u) (ab w):=kM.2 ⟨aD (jT (cH ..)) (aD (kM.1 (aW (ab u))).1 h1),aD h2 (aD (kM.1 (aW (ab w))).2 (dJ ..))⟩
 have m1:ab (x.tmod y)<=ab x:=by rw [gI,gI,uX];exact cZ.2 (Py ..)
 have m2:ab (x.tmod y)<=ab y - 1:=by rw [gI,gI];exact uC (fL.2 t.1)
 have a:ab (x.tmod y)<=m:=by rw [hm];exact wT.2 ⟨aD m1 (bd hl hh),aD m2 (tW (bd hf hk) 1)⟩
 refine ⟨tf (decide (0<=l)) (λe=> ?_) λe=>by rw [e];exact (kM.1 a).1,tf (decide (h<=0)) (λe=> ?_) λe=>by rw [e];exact (kM.1 a).2⟩
 ·rw [e];exact uV y (aD (of_decide_eq_true e) hl)
 ·rw [e]
  have q:=uV y (rU.2 (aD hh (of_decide_eq_true e)))
  rw [Int.neg_tmod] at q
  exact zA q
end
section
variable {D:mY} {a b c k:Int}
theorem Am (h:b<=a) (d:Zl a D):Zl b D:=by
 cases D with
 | nil=>exact trivial
 | cons p r=>exact ⟨jH h d.1,d.2⟩
theorem JJ (p:Int×Int) (r:mY) (k:Int):upTo (p::r) k=bif decide (p.1<=k) then (p.1,min p.2 k)::upTo r k else upTo r k:=by
 unfold upTo
 rw [kX]
 cases decide (p.1<=k)<;>rfl
theorem KZ (p:Int×Int) (r:mY) (k:Int):xJ (p::r) k=bif decide (k<=p.2) then (max p.1 k,p.2)::xJ r k else xJ r k:=by
 unfold xJ
 rw [kX]
 cases decide (k<=p.2)<;>rfl
theorem MW:∀ {D:mY} {b:Int},Zl b D->Zl b (upTo D k)
 | [],_,_=>trivial
 | p::r,b,h=>by
  rw [JJ]
  refine tf (decide (p.1<=k)) (λe=> ?_) λe=> ?_
  ·rw [e];exact ⟨h.1,wT.2 ⟨h.2.1,of_decide_eq_true e⟩,Am (lP ..) (MW h.2.2)⟩
  ·rw [e];exact MW (Am (dA (fH h.1 h.2.1)) h.2.2)
theorem IJ:∀ {D:mY} {b:Int},Zl b D->Zl (max b (k - 1)) (xJ D k)
 | [],_,_=>trivial
 | p::r,b,h=>by
  rw [KZ]
  have q:=IJ h.2.2
  refine tf (decide (k<=p.2)) (λe=> ?_) λe=> ?_
  ·have e':=of_decide_eq_true e
   rw [e]
   exact ⟨Int.max_lt.2 ⟨fH h.1 (cH ..),fH (Du (aW k)) (dJ ..)⟩,gO.2 ⟨h.2.1,e'⟩,Am (cH ..) q⟩
  ·rw [e]
   exact Am (gO.2 ⟨aD (dA (fH h.1 h.2.1)) (cH ..),dJ ..⟩) q
theorem TB {B:mY}:∀ {A:mY} {b:Int},Zl b A->(∀p,p∈A->p.2<=c)->b<=c->Zl c B->Zl b (A++B)
 | [],_,_,_,h,d=>Am h d
 | p::r,_,a,m,_,d=>⟨a.1,a.2.1,TB a.2.2 (λq hq=>m q (.tail _ hq)) (m p (.head _)) d⟩
theorem aLg:inD (upTo D k) a↔inD D a/\a<=k:=⟨λh=>h.elim λp q=>(aT.1 q.1).elim λs w=>by
  rw [<-w.2] at q
  exact ⟨⟨s,(eA.1 w.1).1,q.2.1,aD q.2.2 (lP ..)⟩,aD q.2.2 (tB ..)⟩,
 λh=>h.1.elim λp q=>⟨_,aT.2 ⟨p,eA.2 ⟨q.1,decide_eq_true (aD q.2.1 h.2)⟩,rfl⟩,q.2.1,wT.2 ⟨q.2.2,h.2⟩⟩⟩
theorem XO:inD (xJ D k) a↔inD D a/\k<=a:=⟨λh=>h.elim λp q=>(aT.1 q.1).elim λs w=>by
  rw [<-w.2] at q
  exact ⟨⟨s,(eA.1 w.1).1,aD (cH ..) q.2.1,q.2.2⟩,aD (dJ ..) q.2.1⟩,
 λh=>h.1.elim λp q=>⟨_,aT.2 ⟨p,eA.2 ⟨q.1,decide_eq_true (aD h.2 q.2.2)⟩,rfl⟩,gO.2 ⟨q.2.1,h.2⟩,q.2.2⟩⟩
theorem aFh {A B:mY}:inD (A++B) a↔inD A a\/inD B a:=⟨λh=>h.elim λp q=>(aV.1 q.1).imp (λm=>⟨p,m,q.2⟩) λm=>⟨p,m,q.2⟩,λh=>h.elim (λh=>h.imp λp q=>⟨aL _ q.1,q.2⟩) λh=>h.imp λp q=>⟨aQ _ q.1,q.2⟩⟩
theorem ID:inD (zX D 0) a↔inD D a/\a≠0:=by
 unfold zX
 rw [aFh,aLg,XO]
 exact ⟨λh=>h.elim (λh=>⟨h.1,nI (jH h.2 (by decide))⟩) λh=>⟨h.1,(nI (fH (by decide) h.2)).symm⟩,λh=>(qQ h.2).imp (λl=>⟨h.1,uC l⟩) λl=>⟨h.1,l⟩⟩
theorem aIv (h:oQ D) (e:inD D a/\a≠0):oQ (zX D 0):=by
 have q:=ID.2 e
 have ok:Zl (-1001) (zX D 0):=TB (c:=0) (MW h.ok) (λp m=>(aT.1 m).elim λs w=>by rw [<-w.2];exact aD (tB ..) (by decide)) (by decide) (Am (by decide) (IJ h.ok))
 have n:zX D 0≠[]:=λn=>by rw [n] at q;exact q.elim λY w=>(nomatch w.1)
 exact ⟨n,ok,aD (h.le (ID.1 (RJ n ok)).1).2 h.hi⟩
theorem HH:∀ {D:mY} {b v:Int},Zl b D->inD D v->Gx D v=some v
 | [],_,_,_,h=>h.elim λY w=>nomatch w.1
 | p::r,b,v,d,h=>by
  show (bif decide (v<=p.2) then some (max p.1 v) else Gx r v)=some v
  refine tf (decide (v<=p.2)) (λe=> ?_) λe=> ?_
  ·have e':=of_decide_eq_true e
   rw [e]
   obtain ⟨s,w⟩:=h
   refine (aJ.1 w.1).elim (λq=> ?_) λq=>absurd (tJ d.2.2 ⟨s,q,w.2⟩).1 (dD.2 e')
   rw [q] at w
   exact congrArg some (gC w.2.1)
  ·rw [e]
   obtain ⟨s,w⟩:=h
   refine HH d.2.2 ⟨s,(aJ.1 w.1).resolve_left λq=> ?_,w.2⟩
   rw [q] at w;exact of_decide_eq_false e w.2.2
end
section
variable {G G':GS} {w a b:Vl} {P:List Tr} {j:Nat} {B:Int} {v:Int->Int}
theorem aOd {l h:Int} (e:¬ (l=0/\h=0)):l≠0\/h≠0:=(Decidable.not_and_iff_or_not.1 e)
structure aQs (G:GS) (w:Vl) (P:List Tr) (t:Tr) (y:Int) (G':GS):Prop where
 run:aNj 130 .mW [.d w.enc] G P (iv y) G' (jQ P t) 0
 step:Step X0 G G' 5
 mem:In G'.n y
 ok:nR G' t
 at_:∀v,iK G' v->t.at v= !(w.sm.at v==0)
 ne:∀v,iK G' v->v y≠0
 eq:∀v,iK G' v->t.at v=true->v y=w.sm.at v
 bd:∀v,iK G' v->G.bl w.sm<=v y/\v y<=G.bh w.sm
theorem IR:∀ (r:mY) (p:Int×Int) (b:Int),Zl b (p::r)->((p::r).length:Int)+b<=hi (p::r)
 | []=>λp b d=>by show 1+b<=p.2;rw [gL];exact aD d.1 d.2.1
 | q::r=>λp b d=>aD (by show (((q::r).length+1:Nat):Int)+b<=((q::r).length:Int)+p.2;rw [uW,fT];exact fM (by show 1+b<=p.2;rw [gL];exact aD d.1 d.2.1) _) (IR r q p.2 d.2.2)
theorem oQ.len {D:mY} (h:oQ D):D.length<=2001:=by
 obtain ⟨p,r,rfl⟩:=lF h.ne
 exact cZ.1 (wS (show _+ -1001<=((2001:Nat):Int)+ -1001 from aD (IR r p _ h.ok) h.hi))
theorem aHf {G1 G2 G3:GS} {t:Tr} {x:Int} {q m:Nat} {A C:List (Nat×O)} {y z:Int} {D E:aE} (hP:P.length<=1000) (ht:t≠ .b true) (h1:Run 60 (some .func) .jV [mM,.d w.enc] (mX x q A C G P m) (iv y) (mX x q A C G1 P m)) (h2:Run 10 (some .flat) .jX [DA,iv y] (mX x q A C G1 P m) (.d D) (mX x q A C G1 P m)) (h3:Run 14 none .HO [.d D,iv 0] (mX x q A C G1 P m) (bv true) (mX x q A C G1 P m))
  (h4:Run 100 (some .func) .gG [mM,.d Kd.ne.s,.d w.enc] (mX x q A C G1 P m) (.d t.enc) (mX x q A C G2 P m)) (h5:Run 17 none .Fj [.d D,iv 0] (mX x q A C G2 (jQ P t) m) (.d E) (mX x q A C G2 (jQ P t) m)) (h6:Run 80 (some .func) .pD [mM,iv y,.d t.enc,.d E] (mX x q A C G2 (jQ P t) m) (iv z) (mX x q A C G3 (jQ P t) m)) (hO:Oo q A C m):Run 130 (some .func) .mW [mM,.d w.enc] (mX x q A C G P m) (iv z) (mX x q A C G3 (jQ P t) m):=by
 have n:=Ab (G:=G2) hP t x q A C m hO
 rcases t with ⟨_ | _⟩ | ⟨y,u⟩
 ·exact Run.same sR [eC h1,eC h2,eC h3,eC h4,eC n,eC h5,eC h6] (by kernel_rfl)
 ·exact absurd rfl ht
 ·exact Run.same sR [eC h1,eC h2,eC h3,eC h4,eC n,eC h5,eC h6] (by kernel_rfl)
theorem aHg (g:Good X0 G) (hP:P.length<=1000) (R:nU G (j+5)) (o:wE G w.sm B) (hB:B<=60) (nz:¬ (G.bl w.sm=0/\G.bh w.sm=0)):∃t y G',aQs G w P t y G':=by
 obtain ⟨y,G1,w1⟩:=Ho g nofun (gQ w) o hB (R.le (aS (j+1) 4))
 have g1:=w1.step.good
 have e1:=w1.step.ext
 have D:=g1.dm y w1.mem
 have bd1 {v} (s:iK G1 v):G.bl w.sm<=v y/\v y<=G.bh w.sm:=by have:=D.le (s.eG y w1.mem);rwa [w1.lo,w1.hi] at this
 have hd (K T m):=qH K T m w1.mem
 have hh:=VI (G1.eG y) 0
 refine tf (dC (aEb (Gx (G1.eG y) 0)) (.int 0)) (λe=> ?_) λe=> ?_
 ·rw [e] at hh
  have o1:=o.mono e1.toPre (aW B)
  have hs:∀p,p∈w.sm.parts->In G1.n p.1/\zI p.2:=λp m=>⟨(o1.mem p m).1,Ht (o1.YT p m) (aD hB (by decide))⟩
  obtain ⟨t,G2,w2⟩:=sA (k:= .ne) g1 (w1.step.room (j+4) 0 R) (gQ w) (kF g1 w hs) o1 hB
  have m2:=w1.mem.mono w2.step.ext.n
  have at2 {v} (s:iK G2 v):t.at v= !(w.sm.at v==0):=w2.eq v s
  have e2 {v} (s:iK G2 v):v y=w.sm.at v:=w1.eq v (w2.step.ext.toPre.sol s)
  by_cases ht:t= .b true
  ·subst ht
   exact ⟨.b true,y,G2,λz q A C m hO=>Run.same sR [eC ((w1.run.p P) z q A C m hO),eC (hd ⟨z,.ref q⟩ (A++(q,.list (P.map Tr.enc))::C) m),eC (hh (mX z q A C G1 P m)),eC ((w2.run.p P) z q A C m hO),eC (Ab (G:=G2) hP (.b true) z q A C m hO)] (by kernel_rfl),(w1.step.trans w2.step).le (by decide),m2,w2.ok,λv s=>at2 s,λv s z=>by
    have:=at2 s
    rw [<-e2 s,z] at this;exact lH this.symm,λv s Y=>e2 s,λv s=>bd1 (w2.step.ext.toPre.sol s)⟩
  ·have dy:G2.eG y=G1.eG y:=w2.step.ext.eG y w1.mem
   have ho:∃a,inD (G1.eG y) a/\a≠0:=(aOd nz).elim (λn=>⟨_,D.aAx,by rw [w1.lo];exact n⟩) λn=>⟨_,D.QL,by rw [w1.hi];exact n⟩
   obtain ⟨a,ha⟩:=ho
   have D0:=aIv D ha
   obtain ⟨z,G3,w3⟩:=Zr w2.step.good m2 w2.ok D0 (λv s e=>ID.2 ⟨by rw [<-dy];exact s.eG y m2,λq=>by rw [at2 s,<-e2 s,q] at e;exact lH e⟩) (w2.step.room (j+3) 0 (w1.step.room (j+4) 0 R))
   have ok3:=w2.ok.mono w3.step.ext.toPre
   have s2 {v} (s:iK G3 v):=w3.step.ext.toPre.sol s
   have hz {v} (s:iK G3 v):inD (G1.eG y) (v z)/\v z≠0:=ID.1 (by have:=s.eG z w3.mem;rwa [w3.eG] at this)
   exact ⟨t,z,G3,λx q A C m hO=>aHf hP ht ((w1.run.p P) x q A C m hO) (hd _ _ _) (hh _) ((w2.run.p P) x q A C m hO) (AB _ 0 (aB (iO D.len D.len) (by decide)) _) ((w3.run.p (jQ P t)) x q A C m hO) hO,((w1.step.trans w2.step).trans w3.step),w3.mem,ok3,λv s=>at2 (s2 s),λv s=>(hz s).2,λv s e=>by rw [w3.eq v s,e];exact e2 (s2 s),λv s=>by have:=D.le (hz s).1;rwa [w1.lo,w1.hi] at this⟩
 ·rw [e] at hh
  have no {v} (s:iK G1 v):v y≠0:=λz=>by
   rw [HH D.ok (by have:=s.eG y w1.mem;rwa [z] at this)] at e;exact lH e.symm
  exact ⟨.b true,y,G1,λz q A C m hO=>Run.same sR [eC ((w1.run.p P) z q A C m hO),eC (hd ⟨z,.ref q⟩ (A++(q,.list (P.map Tr.enc))::C) m),eC (hh (mX z q A C G1 P m))] (by kernel_rfl),w1.step.le (by decide),w1.mem,trivial,λv s=>by rw [<-w1.eq v s,xM (no s)];rfl,λv=>no,λv s Y=>w1.eq v s,λv=>bd1⟩
end
structure aMn (G:GS) (n:Nat) (f:Nm) (vs:List V) (P:List Tr) (r:Vl) (G':GS) (P':List Tr) (d c:Nat) (B:Int) (N:(Int->Int)->Bool) (A:(Int->Int)->Int):Prop where
 run:aNj n f vs G P (.d r.enc) G' P' d
 step:Step X0 G G' c
 ok:wE G' r.sm B
 ns:r.Pc=false
 tr:(∀t,t∈P->nR G t)->∀t,t∈P'->nR G' t
 nb:nb P'<=nb P+1
 len:P'.length<=P.length+3
 nt:∀v,iK G' v->P'.all (Tr.at v)=(P.all (Tr.at v)&&N v)
 eq:∀v,iK G' v->N v=true->r.sm.at v=A v
section
variable {G G1 G2 G3:GS} {a b:Vl} {P P2:List Tr} {t:Tr} {v:Int->Int} {x0:Int} {q m:Nat} {A C:List (Nat×O)} {K:Kx} {T:List (Nat×O)} {st:St} {w:Bool}
theorem Xh:∀P:List Tr,nb (P++[t])<=nb P+1
 | []=>by cases t<;>exact aP rfl
 | .b _::r=>Xh r
 | .bit _ _::r=>bK (Xh r)
theorem Ga (P:List Tr) (t:Tr):nb (jQ P t)<=nb P+1/\(jQ P t).length<=P.length+1/\(∀u,u∈jQ P t->u∈P\/u=t)/\∀v,(jQ P t).all (Tr.at v)=(P.all (Tr.at v)&&t.at v):=by
 have q:nb (P++[t])<=nb P+1/\(P++[t]).length<=P.length+1/\(∀u,u∈P++[t]->u∈P\/u=t)/\∀v,(P++[t]).all (Tr.at v)=(P.all (Tr.at v)&&t.at v):=⟨Xh P,by rw [aN];exact bM _,λu m=>(aV.1 m).imp id aC.1,λv=>by rw [Oa];exact congrArg (_&& ·) (hV _)⟩
 rcases t with ⟨_ | _⟩ | ⟨x,u⟩
 ·exact q
 ·exact ⟨bJ _,bJ _,λu m=> .inl m,λv=>(hV _).symm⟩
 ·exact q
theorem DT (i k:Int):aAr i k=i.tdiv k:=by
 have f {a b:Int} (ha:0<=a) (hb:0<=b):a.fdiv b=a.tdiv b:=by rw [oY _ hb,Int.tdiv_eq_ediv_of_nonneg ha]
 have s (i:Int):(0<=i/\decide (i<0)=false/\ab i=i)\/(0<= -i/\decide (i<0)=true/\ab i= -i):=(Decidable.em (i<0)).symm.imp (λh=>⟨dD.1 h,decide_eq_false h,if_neg h⟩) λh=>⟨rU.2 (dA h),decide_eq_true h,if_pos h⟩
 unfold aAr
 rcases s i with p | p<;>rcases s k with q | q<;>rw [p.2.1,q.2.1,p.2.2,q.2.2,f p.1 q.1]
 ·rfl
 ·rw [Int.tdiv_neg];exact Nb _
 ·rw [Int.neg_tdiv];exact Nb _
 ·rw [Int.neg_tdiv,Int.tdiv_neg];exact Nb _
noncomputable def aFx (w:Bool) (l h f k:Int):mY:=bif w then [(bif decide (l>=0)&&decide (f>=0) then 0 else -(max (ab l) (ab h)),max (ab l) (ab h))] else [(bif decide (l>=0) then 0 else -(min (max (ab l) (ab h)) (max (ab f) (ab k) - 1)),bif decide (h<=0) then 0 else min (max (ab l) (ab h)) (max (ab f) (ab k) - 1))]
theorem YD {ρ:List (Nm×V)} (h:ρ=[(.bD,mM),(.qA,.d (UB w .xB .Ai)),(.dP,.d a.enc),(.dO,.d b.enc),(.kN,.un),(.tE,.un),(.dY,.un),(.cT,.un),(.Rj,.un),(.Ox,.un),(.Bp,.un)]) (hk:((!a.sH&& !a.sI)&&(!b.sH&& !b.sI))=false):∀j,40<=j->(ev j).E ρ (.and [.call .pI [.v .dP],.call .pI [.v .dO]]) st=some (bv false,st):=by
 subst h
 have p:=nK a st
 have q:=nK b st
 revert p q hk
 cases (!a.sH&& !a.sI) with
 | true=>cases (!b.sH&& !b.sI) with
  | true=>exact λh=>nomatch h
  | false=>exact λY p q=>kG [eC p,eC q] (by kernel_rfl)
 | false=>exact λY p q=>kG [eC p] (by kernel_rfl)
section
variable {s0 s1 s2 s3:St} {l h f k x y z:Int} {G4:GS}
theorem aFr (e0:((f==0)&&((k==0)&&true))=false) (hk:((!a.sH&& !a.sI)&&(!b.sH&& !b.sI))=false) (h0:Run 32 (some .func) .jB [mM,.d b.enc] (mX x0 q A C G P m) (.d (.tuple [.int f,.int k])) (mX x0 q A C G P m)) (h1:Run 60 (some .func) .jV [mM,.d a.enc] (mX x0 q A C G P m) (iv x) (mX x0 q A C G1 P m)) (h2:Run 130 (some .func) .mW [mM,.d b.enc] (mX x0 q A C G1 P m) (iv y) (mX x0 q A C G2 P2 m))
  (h3:Run 32 (some .func) .jB [mM,.d a.enc] (mX x0 q A C G2 P2 m) (.d (.tuple [.int l,.int h])) (mX x0 q A C G2 P2 m)) (h4:Run 32 (some .func) .jB [mM,.d b.enc] (mX x0 q A C G2 P2 m) (.d (.tuple [.int f,.int k])) (mX x0 q A C G2 P2 m)) (h5:∀c d,aFx w l h f k=[(c,d)]->c<=d) (h6:Run 60 (some .func) .jP [mM,.d (.tuple [UB w .xB .Ai,.int x,.int y]),.d (eJ (aFx w l h f k))] (mX x0 q A C G2 P2 m) (.d (Sm.enc ⟨[(z,1)],0⟩)) (mX x0 q A C G3 P2 m)):
  Run 160 (some .func) .Fo [mM,.d (UB w .xB .Ai),.d a.enc,.d b.enc] (mX x0 q A C G P m) (.d (Sm.enc ⟨[(z,1)],0⟩)) (mX x0 q A C G3 P2 m):=by
 have c:=YD (a:=a) (b:=b) (w:=w) (st:=mX x0 q A C G P m) rfl hk
 cases w with
 | true=>
  have rg:=rZ (h5 _ _ rfl) (mX x0 q A C G2 P2 m)
  revert rg h6
  unfold aFx
  refine tf (decide (l>=0)) (λe=> ?_) λe=> ?_
  ·rw [e]
   refine tf (decide (f>=0)) (λe'=> ?_) λe'=> ?_
   ·rw [e'];exact λh6 rg=>Run.same sR [eC h0,eQ (mX x0 q A C G P m) e0,eE c,eC h1,eC h2,eC h3,eC h4,eX 3,eQ (mX x0 q A C G2 P2 m) e,eQ (mX x0 q A C G2 P2 m) e',eC rg,eC h6] (by kernel_rfl)
   ·rw [e'];exact λh6 rg=>Run.same sR [eC h0,eQ (mX x0 q A C G P m) e0,eE c,eC h1,eC h2,eC h3,eC h4,eX 3,eQ (mX x0 q A C G2 P2 m) e,eQ (mX x0 q A C G2 P2 m) e',eC rg,eC h6] (by kernel_rfl)
  ·rw [e];exact λh6 rg=>Run.same sR [eC h0,eQ (mX x0 q A C G P m) e0,eE c,eC h1,eC h2,eC h3,eC h4,eX 3,eQ (mX x0 q A C G2 P2 m) e,eC rg,eC h6] (by kernel_rfl)
 | false=>
  have rg:=rZ (h5 _ _ rfl) (mX x0 q A C G2 P2 m)
  revert rg h6
  unfold aFx
  refine tf (decide (l>=0)) (λe=> ?_) λe=> ?_<;>refine tf (decide (h<=0)) (λe'=> ?_) λe'=> ?_<;>rw [e,e']<;>
  exact λh6 rg=>Run.same sR [eC h0,eQ (mX x0 q A C G P m) e0,eE c,eC h1,eC h2,eC h3,eC h4,eX 3,eQ (mX x0 q A C G2 P2 m) e,eQ (mX x0 q A C G2 P2 m) e',eC rg,eC h6] (by kernel_rfl)
end
end
section
variable {G G':GS} {a b:Vl} {P:List Tr} {v:Int->Int} {w:Bool} {j:Nat} {A B:Int} {x y:Int}
theorem Pre.b2 (p:Pre G G') {t:Sm} (o:wE G t B):G'.bl t=G.bl t/\G'.bh t=G.bh t:=p.b λq m=>(o.mem q m).1
theorem wE.sm (o:wE G a.sm B) (hB:B<=60):∀p,p∈a.sm.parts->In G.n p.1/\zI p.2:=λp m=>⟨(o.mem p m).1,Ht (o.YT p m) (aD hB (by decide))⟩
theorem wB {i:Int} (h:ab i<=B):wE G (Vl.n i).sm B:=⟨.nil,λY m=>(nomatch m),by show ab i+0<=B;rw [cA];exact h⟩
theorem YH (g:Good X0 G) (R:nU G (j+1)) (hx:In G.n x) (hy:In G.n y) (ne:∀v,iK G v->v y≠0) {l h f k:Int} (hb:∀v,iK G v->(l<=v x/\v x<=h)/\f<=v y/\v y<=k) (hr:max (ab l) (ab h)=tP (G.eG x)) (r60:tP (G.eG x)<=60) (some:∃v,iK G v):
  (∀c d,aFx w l h f k=[(c,d)]->c<=d)/\∃z u G1 G',xR G (.dm w x y) (aFx w l h f k) [.dm w x y z] z u G1 G':=by
 obtain ⟨c,d,e⟩:∃c d,aFx w l h f k=[(c,d)]:=by cases w<;>exact ⟨_,_,rfl⟩
 have hin:∀v,iK G v->c<=Key.val v (.dm w x y)/\Key.val v (.dm w x y)<=d:=λv s=>by
  have q:=hb v s
  cases w with
  | true=>
   have e:=cL (fR e).1
   rw [<-e.1,<-e.2];exact aFy q.1.1 q.1.2 q.2.1
  | false=>
   have e:=cL (fR e).1
   rw [<-e.1,<-e.2];exact aEo (ne v s) q.1.1 q.1.2 q.2.1 q.2.2 rfl
 have cd:c<=d:=some.elim λv s=>aD (hin v s).1 (hin v s).2
 have m0:0<=max (ab l) (ab h):=aD (rH l) (cH ..)
 have ends:ab c<=tP (G.eG x)/\ab d<=tP (G.eG x):=by
  have z:ab 0<=max (ab l) (ab h):=m0
  have mm:ab (max (ab l) (ab h))<=max (ab l) (ab h):=pP (if_neg (dD.2 m0))
  rw [<-hr]
  cases w with
  | true=>
   have e:=cL (fR e).1
   rw [<-e.1,<-e.2]
   refine ⟨?_,mm⟩
   cases decide (l>=0)&&decide (f>=0)
   ·exact kM.2 ⟨aW _,aD (Int.neg_nonpos_of_nonneg m0) m0⟩
   ·exact z
  | false=>
   have e:=cL (fR e).1
   have q:∃v,iK G v:=some
   obtain ⟨v,s⟩:=q
   have n:0<=min (max (ab l) (ab h)) (max (ab f) (ab k) - 1):=by
    refine wT.2 ⟨m0,?_⟩
    have y0:=ne v s
    have y1:=(hb v s).2
    have a:1<=ab (v y):=TK y0
    have:ab (v y)<=max (ab f) (ab k):=kM.2 ⟨aD (jT (cH ..)) (aD (kM.1 (aW (ab f))).1 y1.1),aD y1.2 (aD (kM.1 (aW (ab k))).2 (dJ ..))⟩
    exact Int.sub_nonneg.2 (aD a this)
   have mn:ab (min (max (ab l) (ab h)) (max (ab f) (ab k) - 1))<=max (ab l) (ab h):=aD (pP (if_neg (dD.2 n))) (lP ..)
   have mn':ab (-(min (max (ab l) (ab h)) (max (ab f) (ab k) - 1)))<=max (ab l) (ab h):=by rw [gI,mQ,<-gI];exact mn
   rw [<-e.1,<-e.2]
   constructor
   ·cases decide (l>=0)
    ·exact mn'
    ·exact z
   ·cases decide (h<=0)
    ·exact mn
    ·exact z
 have rs:=wF (kM.1 (aD ends.1 r60)).1 cd (kM.1 (aD ends.2 r60)).2 (by decide)
 rw [e]
 refine ⟨λc' d' q=>by cases q;exact cd,yJ g (λz=>[.dm w x y z]) R rs.2 (aP rfl) (zD ⟨⟨aP rfl,λY m=>nomatch m⟩,λu m=>(aJ.1 m).elim (λe=>by rw [e];exact hx.mono (bJ _)) λm=>(aJ.1 m).elim (λe=>by rw [e];exact hy.mono (bJ _)) λm=>by rw [aC.1 m];exact In.self⟩)
  (λv v' q=>by show (bif w then (v x).tdiv (v y) else (v x).tmod (v y))=_;rw [q x hx,q y hy];rfl) (λv s=>tC.2 (hin v s)) (λv s Y=>Bm.trans (aFv (ne v s) w)) ⟨hx.mono (by rw [sS (G':=(G.add (.dm w x y) [(c,d)]).sT [.dm w x y G.n]) rfl];exact bJ _),?_⟩⟩
 rw [mD (G':=(G.add (.dm w x y) [(c,d)]).sT [.dm w x y G.n]) rfl,Yj (G':=(G.add (.dm w x y) [(c,d)]).sT [.dm w x y G.n]) rfl hx]
 exact gO.2 ends
end
section
variable {G G':GS} {a b:Vl} {P:List Tr} {v:Int->Int} {w:Bool} {j:Nat} {A B:Int} {x y:Int}
theorem RH {i k:Int} (hs:zI k) (hk:k≠0) (st:St):Run 20 none .wX [.d (UB w .xB .Ai),iv i,iv k,iv 0] st (iv (bif w then i.tdiv k else i.tmod k)) st:=by
 cases w with
 | true=>show Run 20 none _ _ st (iv (i.tdiv k)) st;rw [<-DT];exact Lu hs hk st
 | false=>show Run 20 none _ _ st (iv (i.tmod k)) st;rw [Bg,<-DT];exact Ls hs hk st
theorem aFz (g:Good X0 G) (hP:P.length<=1000) (R:nU G (j+7)) (ex:∃v,iK G v) (oa:wE G a.sm A) (ob:wE G b.sm B) (na:a.Pc=false) (nb_:b.Pc=false) (hA:A<=50) (hB:B<=60):
  ∃r G' P',aMn G 160 .Fo [.d (UB w .xB .Ai),.d a.enc,.d b.enc] P r G' P' 0 7 (A+1) (λv=> !(b.sm.at v==0)) λv=>bif w then (a.sm.at v).tdiv (b.sm.at v) else (a.sm.at v).tmod (b.sm.at v):=by
 refine aBj λQ qed=> ?_
 have hA6:A<=60:=aD hA (by decide)
 have h0:=kF g b (ob.sm hB)
 by_cases nz:G.bl b.sm=0/\G.bh b.sm=0
 ·have q:=Ga P (.b false)
  have z (v) (s:iK G v):b.sm.at v=0:=by have:=g.bounds s λp m=>(ob.mem p m).1;rw [nz.1,nz.2] at this;exact dU this.2 this.1
  rw [nz.1,nz.2] at h0
  exact qed ⟨.n 0,G,jQ P (.b false),λx0 q A C m hO=>Run.same sR [eC ((h0.p P) x0 q A C m hO),eC (Ab (G:=G) hP (.b false) x0 q A C m hO)] (by kernel_rfl),.refl g 7,wB (aD (rH _) (aD oa.con (dA (mZ A)))),rfl,λh t m=>(q.2.2.1 t m).elim (h t) λe=>by rw [e];trivial,q.1,aB q.2.1 (bE (by decide) _),λv s=>by rw [q.2.2.2 v,z v s];rfl,λv s e=>by rw [z v s] at e;exact lH e⟩
 have e0:((G.bl b.sm==0)&&((G.bh b.sm==0)&&true))=false:=oJ.2 λe=>by rw [hV,kY,beq_iff_eq,beq_iff_eq] at e;exact nz e
 refine tf ((!a.sH&& !a.sI)&&(!b.sH&& !b.sI)) (λkn=> ?_) λkn=> ?_
 ·rcases a with i | s | t
  ·rcases b with k | s' | t'
   ·have hk:k≠0:=λe=>nz (by rw [e];exact ⟨rfl,rfl⟩)
    have m:ab (bif w then i.tdiv k else i.tmod k)<=ab i:=by cases w<;>(rw [gI,gI];first | (rw [show (bif true then i.tdiv k else i.tmod k)=i.tdiv k from rfl,Ck];exact cZ.2 (uU ..)) | (rw [show (bif false then i.tdiv k else i.tmod k)=i.tmod k from rfl,uX];exact cZ.2 (Py ..)))
    have ka:=nK (.n i)
    have kb:=nK (.n k)
    have h1:ab i<=A:=oa.con
    exact qed ⟨.n (bif w then i.tdiv k else i.tmod k),G,P,λx0 q A C m hO=>Run.same sR [eC ((h0.p P) x0 q A C m hO),eQ (mX x0 q A C G P m) e0,eC (ka (mX x0 q A C G P m)),eC (kb (mX x0 q A C G P m)),eC (RH (w:=w) (i:=i) (Ht ob.con (aD hB (by decide))) hk (mX x0 q A C G P m))] (by kernel_rfl),.refl g 7,wB (aD m (aD h1 (dA (mZ A)))),rfl,λh=>h,bJ _,aS _ _,λv s=>by rw [show (Vl.n k).sm.at v=k from cA k,xM hk];exact (hV _).symm,λv s Y=>by rw [show (Vl.n k).sm.at v=k from cA k,show (Vl.n i).sm.at v=i from cA i];exact cA _⟩
   ·exact lH kn
   ·exact lH nb_.symm
  ·exact lH kn
  ·exact lH na.symm
 ·obtain ⟨x,G1,w1⟩:=Ho g nofun (gQ a) oa hA6 (R.le (aS (j+1) 6))
  have e1:=w1.step.ext
  have ob1:=ob.mono e1.toPre (aW B)
  have b1:=e1.toPre.b2 ob
  obtain ⟨t,y,G2,w2⟩:=aHg (P:=P) w1.step.good hP (w1.step.room (j+6) 0 R |>.le (bJ (j+5))) ob1 hB (by rw [b1.1,b1.2];exact nz)
  have e2:=w2.step.ext
  have p2:=e1.toPre.trans e2.toPre
  have oa2:=oa.mono p2 (aW A)
  have ob2:=ob.mono p2 (aW B)
  have h3:=kF w2.step.good a (oa2.sm hA6)
  have h4:=kF w2.step.good b (ob2.sm hB)
  rw [(p2.b2 oa).1,(p2.b2 oa).2] at h3
  rw [(p2.b2 ob).1,(p2.b2 ob).2] at h4
  have hx:=w1.mem.mono e2.n
  have rd:G2.eG x=G1.eG x:=e2.eG x w1.mem
  have ra:tP (G2.eG x)<=A:=by rw [rd];unfold tP;rw [w1.lo,w1.hi];exact gO.2 ⟨kM.2 ⟨oa.b.1,aD (Nt G _) oa.b.2⟩,kM.2 ⟨aD oa.b.1 (Nt G _),oa.b.2⟩⟩
  have ex2:∃v,iK G2 v:=ex.elim λv s=>(e1.ex v s).elim λv' s'=>(e2.ex v' s'.1).elim λv2 s2=>⟨v2,s2.1⟩
  have s1 {v} (s:iK G2 v):=e2.toPre.sol s
  obtain ⟨cd,z,u,G3,G4,o⟩:=YH (w:=w) w2.step.good (w1.step.room (j+6) 0 R|>w2.step.room (j+1) 0) hx w2.mem w2.ne (l:=G.bl a.sm) (h:=G.bh a.sm) (f:=G.bl b.sm) (k:=G.bh b.sm) (λv s=>⟨by have:=(w1.step.good.dm x w1.mem).le ((s1 s).eG x w1.mem);rwa [w1.lo,w1.hi] at this,by have:=w2.bd v s;rwa [b1.1,b1.2] at this⟩) (by rw [rd];unfold tP;rw [w1.lo,w1.hi]) (aD ra hA6) ex2
  have q:=Ga P t
  have e3:=o.step.ext
  have s2 {v} (s:iK G4 v):=e3.toPre.sol s
  have k:=Rr (xs:=[UB w .xB .Ai,.int x,.int y]) rfl rfl (aP rfl) o
  refine qed ⟨.s ⟨[(z,1)],0⟩,G4,jQ P t,λx0 q A C m hO=>aFr e0 kn ((h0.p P) x0 q A C m hO) ((w1.run.p P) x0 q A C m hO) (w2.run x0 q A C m hO) ((h3.p _) x0 q A C m hO) ((h4.p _) x0 q A C m hO) cd ((k.p _) x0 q A C m hO),(w1.step.trans w2.step).trans o.step,⟨fP ..,λp m=>by rw [aC.1 m];exact ⟨o.mem,show (1:Int)≠0 by decide⟩,?_⟩,rfl,λh u m=> ?_,q.1,aB q.2.1 (bE (by decide) _),λv s=> ?_,λv s n=> ?_⟩
  ·show 0+(1*(tP (G4.eG z)+1)+0)<=A+1
   rw [fD,cA,iE]
   exact bQ (aD o.eG.2 (by rw [e3.eG x hx];exact ra)) 1
  ·exact (q.2.2.1 u m).elim (λm=>(h u m).mono (p2.trans e3.toPre)) λe=>by rw [e];exact w2.ok.mono e3.toPre
  ·rw [q.2.2.2 v,w2.at_ v (s2 s)]
  ·show 0+(1*v z+0)=_
   rw [fD,cA,iE,o.eq v s,<-w1.eq v (s1 (s2 s)),<-w2.eq v (s2 s) ((w2.at_ v (s2 s)).trans n)];rfl
end
section
variable {x0:Int} {q m n d:Nat} {A C:List (Nat×O)} {G G1 G2 G3:GS} {P:List Tr} {o o':O} {xs ys:List aE} {r1 r2:aE} {t1 t2 t:Tr} {st:St} {L:List (Nat×O)} {r:Nat}
theorem aDy (hO:Oo q A C m):At (mX x0 q A (C++[(m,o)]) G P n) m o/\∀o',Um (mX x0 q A (C++[(m,o)]) G P n) m o' (mX x0 q A (C++[(m,o')]) G P n).objs:=by
 have f:=mJ (r:=m) (o:=o) (M:=[]) _ (Ok.fs (K:=⟨x0,.ref q⟩) (G:=G) (hO.ok (.list (P.map Tr.enc))))
 have e (o:O):core ⟨x0,.ref q⟩ G++(A++(q,.list (P.map Tr.enc))::C)++[(m,o)]=core ⟨x0,.ref q⟩ G++(A++(q,.list (P.map Tr.enc))::(C++[(m,o)])):=by rw [bU,bU];rfl
 rw [e] at f
 exact ⟨f.1,λo'=>(f.2 o').trans (e o')⟩
theorem Oo.push (hO:Oo q A C m) (o:O):Oo q A (C++[(m,o)]) (m+1):=⟨hO.fa,hO.fq,gZ hO.fm,λp h=>(aV.1 h).elim (λh=>gZ (hO.fb p h)) λh=>by rw [aC.1 h];exact cI m⟩
theorem OH (hO:Oo q A C m):Et (.ref m) (mX x0 q A (C++[(m,.list xs)]) G P n)=some ((xs,some m),mX x0 q A (C++[(m,.sJ xs)]) G P n):=Pk (aDy hO).1 ((aDy hO).2 _)
theorem OG (hO:Oo q A C m):Og (some m) (mX x0 q A (C++[(m,.sJ xs)]) G P n)=some ((),mX x0 q A (C++[(m,.list xs)]) G P n):=Pj (aDy hO).1 ((aDy hO).2 _)
theorem OI (hO:Oo q A C m) (h:xs.length+ys.length<=bW):method (.ref m) .uI [.d (.list ys)] (mX x0 q A (C++[(m,.list xs)]) G P n)=some (.d .none,mX x0 q A (C++[(m,.list (xs++ys))]) G P n):=aY (a:= .d (.list ys)) rfl (aY (a:=ys) rfl (aY (aY (aDy hO).1.get rfl) (aY (a:=()) (by show dK _ _=_;rw [decide_eq_true h];rfl) (aY (a:=()) (congrArg (λl=>some ((),St.mk l n)) ((aDy hO).2 _)) rfl))))
theorem Qc (hO:Oo q A C m) (mn:m+1<=n) (hP:P.length<=1000) (h1:Me 100 .gG [.d Kd.le.s,.d r1] G (.d t1.enc) G1 0) (h2:Me 100 .gG [.d Kd.le.s,.d r2] G1 (.d t2.enc) G2 0) (h3:Me 90 .jC [nA [t1,t2]] G2 (.d t.enc) G3 1):
  Run 130 (some .func) .Rh [mM,.ref m] (mX x0 q A (C++[(m,.list [r1,r2])]) G P n) (.d t.enc) (mX x0 q A (C++[(m,.list [r1,r2])]) G3 (jQ P t) (n+1)):=by
 have o1:Oo q A (C++[(m,.sJ [r1,r2])]) n:=by have:=(hO.push (.sJ [r1,r2])).up (n - (m+1));rwa [vG mn] at this
 have o2:Oo q A (C++[(m,.list [r1,r2])]) n:=by have:=(hO.push (.list [r1,r2])).up (n - (m+1));rwa [vG mn] at this
 exact Run.same sR [eI (OH (x0:=x0) (G:=G) (P:=P) (n:=n) (xs:=[r1,r2]) hO),eC ((h1.p P) x0 q _ _ n o1),eC ((h2.p P) x0 q _ _ n o1),eU 16 (OG (x0:=x0) (G:=G2) (P:=P) (n:=n) (xs:=[r1,r2]) hO),eC ((h3.p P) x0 q _ _ n o2),eC (Ab (G:=G3) hP t x0 q _ _ (n+1) (o2.up 1))] (by kernel_rfl)
end
section
variable {K:Kx} {T:List (Nat×O)} {m d:Nat} {G G1 G2 G3 G':GS} {a b c:Vl} {i xb xc z l h:Int} {D:mY} {st:St} {x y:aE} {xs:List aE}
theorem eq_nil:nC .eq (.d (.list (x::xs))) (.d (.list [])) st=some (bv false,st):=aY (a:= .list (x::xs)) rfl (aY (a:= .list []) rfl (aY (a:=()) (by unfold Xd;rw [decide_eq_true (aB (gT ..) (by decide))];rfl) rfl))
theorem SE {p q:Int} (h1:Run 30 none .tQ [.d (.tuple [.int p,.int q])] (cR K G T m) (.d (eJ D)) (cR K G T (m+1))) (h2:Run 60 (some .func) .jP [mM,.d (Key.enc (.eo i p q)),.d (eJ D)] (cR K G T (m+1)) (.d (Sm.enc ⟨[(z,1)],0⟩)) (cR K G' T (m+1))):
  Run 90 (some .func) .rE [mM,iv i,.d (.list [.int p,.int q])] (cR K G T m) (.d (Sm.enc ⟨[(z,1)],0⟩)) (cR K G' T (m+1)):=
 have k (p st):=nK (.n p) st
 have t (p st):=vX (.n p) st
 Run.same rfl [eC (k p (cR K G T m)),eC (k q (cR K G T m)),eC h1,eC h2,eC (t p (cR K G' T (m+1))),eC (t q (cR K G' T (m+1))),eP 3 (eq_nil (x:= .int p) (xs:=[.int q]) (st:=cR K G' T (m+1)))] (by kernel_rfl)
theorem YX {lb hb lc hc:Int} (kn:(!b.sH&& !b.sI)=false\/(!c.sH&& !c.sI)=false) (nb_:b.Pc=false) (nc:c.Pc=false) (h1:Run 32 (some .func) .jB [mM,.d b.enc] (cR K G T m) (.d (.tuple [.int lb,.int hb])) (cR K G T m)) (h2:Run 32 (some .func) .jB [mM,.d c.enc] (cR K G T m) (.d (.tuple [.int lc,.int hc])) (cR K G T m))
  (h3:Run 9 none .nL [iv (min lb lc),iv (max hb hc)] (cR K G T m) (.d (eJ D)) (cR K G T m)) (h4:Run 60 (some .func) .jV [mM,.d b.enc] (cR K G T m) (iv xb) (cR K G1 T m)) (h5:Run 60 (some .func) .jV [mM,.d c.enc] (cR K G1 T m) (iv xc) (cR K G2 T m)) (h6:Run 60 (some .func) .jP [mM,.d (Key.enc (.el i xb xc)),.d (eJ D)] (cR K G2 T m) (.d (Sm.enc ⟨[(z,1)],0⟩)) (cR K G' T m)):
  Run 90 (some .func) .rE [mM,iv i,.d (.list [b.enc,c.enc])] (cR K G T m) (.d (Sm.enc ⟨[(z,1)],0⟩)) (cR K G' T m):=by
 have vs:Run 75 (some .func) .Ma [mM,.d (.list [b.enc,c.enc])] (cR K G T m) (.d (.tuple [.int xb,.int xc])) (cR K G2 T m):=Run.same rfl [eC h4,eC h5] (by kernel_rfl)
 have kb:=nK b (cR K G T m)
 have kc:=nK c (cR K G T m)
 have tb:=vX b (cR K G' T m)
 have tc:=vX c (cR K G' T m)
 rw [nb_] at tb
 rw [nc] at tc
 have e:=eq_nil (x:=b.enc) (xs:=[c.enc]) (st:=cR K G' T m)
 revert kb kc kn
 cases (!b.sH&& !b.sI) with
 | true=>cases (!c.sH&& !c.sI) with
  | true=>exact λh=>h.elim (λh=>nomatch h) λh=>nomatch h
  | false=>exact λY kb kc=>Run.same rfl [eC kb,eC kc,eP 3 (eq_nil (x:=c.enc) (xs:=[]) (st:=cR K G T m)),eC h1,eC h2,eC h3,eC vs,eC h6,eC tb,eC tc,eP 3 e] (by kernel_rfl)
 | false=>cases (!c.sH&& !c.sI) with
  | true=>exact λY kb kc=>Run.same rfl [eC kb,eC kc,eP 3 (eq_nil (x:=b.enc) (xs:=[]) (st:=cR K G T m)),eC h1,eC h2,eC h3,eC vs,eC h6,eC tb,eC tc,eP 3 e] (by kernel_rfl)
  | false=>exact λY kb kc=>Run.same rfl [eC kb,eC kc,eP 3 (eq_nil (x:=b.enc) (xs:=[c.enc]) (st:=cR K G T m)),eC h1,eC h2,eC h3,eC vs,eC h6,eC tb,eC tc,eP 3 e] (by kernel_rfl)
end
section
variable {G G':GS} {b c:Vl} {i z p q:Int} {j d:Nat} {B C:Int} {D:mY} {k:Key} {L:List Told} {G1:GS} {u:Bool}
structure aMw (G:GS) (b c:Vl) (i:Int) (M:Int) (z:Int) (G':GS) (d:Nat):Prop where
 run:Me 90 .rE [iv i,.d (.list [b.enc,c.enc])] G (.d (Sm.enc ⟨[(z,1)],0⟩)) G' d
 step:Step X0 G G' 3
 mem:In G'.n z
 tP:tP (G'.eG z)<=M
 eq:∀v,iK G' v->v z=bif v i==1 then b.sm.at v else c.sm.at v
theorem IQ {a b i z:Int} (h:i=1\/i=2):RF i a b z=true↔z=bif i==1 then a else b:=by
 unfold RF
 rcases h with rfl | rfl
 ·show ((true&&z==a)||(false&&z==b))=true↔z=a
  rw [Gu,Qa,Gv,beq_iff_eq]
 ·show ((false&&z==a)||(true&&z==b))=true↔z=b
  rw [Gu,Qa,Bool.false_or,beq_iff_eq]
theorem aLl (h:p<=q) (h1: -1000<=p) (h2:q<=1000):oQ (UC p q)/\(inD (UC p q) p/\inD (UC p q) q)/\tP (UC p q)<=max (ab p) (ab q):=by
 unfold UC aHv
 refine tf (decide (p<q)) (λe=> ?_) λe=> ?_
 ·rw [e]
  refine tf (decide (q<=p+1)) (λf=> ?_) λf=> ?_
  ·rw [f];exact ⟨Hx h h1 h2,⟨tC.2 ⟨aW _,h⟩,tC.2 ⟨h,aW _⟩⟩,aW _⟩
  ·rw [f];exact ⟨⟨nofun,⟨h1,aW _,of_decide_eq_true e,aW _,trivial⟩,h2⟩,⟨⟨_,.head _,aW _,aW _⟩,⟨_,.tail _ (.head _),aW _,aW _⟩⟩,aW _⟩
 ·have w:q=p:=dU (dD.1 (of_decide_eq_false e)) h
  rw [e,w];exact ⟨Hx (aW _) h1 (aD h h2),⟨tC.2 ⟨aW _,aW _⟩,tC.2 ⟨aW _,aW _⟩⟩,aW _⟩
theorem SD (g:Good X0 G) (R:nU G (j+1)) (hi:In G.n i) (h12:∀v,iK G v->v i=1\/v i=2) {x y:Int} (hs:hJ [p,q]=[x,y]) (hxy:x<=y) (pq:(x=p/\y=q)\/(x=q/\y=p)) (hp:ab p<=60) (hq:ab q<=60):∃z G',aMw G (.n p) (.n q) i (max (ab p) (ab q)) z G' 1:=by
 have bx:ab x<=60/\ab y<=60/\max (ab x) (ab y)<=max (ab p) (ab q):=by rcases pq with ⟨rfl,rfl⟩ | ⟨rfl,rfl⟩;exact ⟨hp,hq,aW _⟩;exact ⟨hq,hp,gO.2 ⟨dJ ..,cH ..⟩⟩
 have f:=aLl hxy (aD (by decide) (kM.1 bx.1).1) (aD (kM.1 bx.2.1).2 (by decide))
 have fi:inD (UC x y) p/\inD (UC x y) q:=by rcases pq with ⟨rfl,rfl⟩ | ⟨rfl,rfl⟩;exact f.2.1;exact f.2.1.symm
 obtain ⟨z,u,G1,G',o⟩:=yJ g (k:= .eo i p q) (λz=>[.eo i p q z]) R f.1 (aP rfl) (zD ⟨⟨aP rfl,λY m=>nomatch m⟩,λu m=>(aJ.1 m).elim (λe=>by rw [e];exact hi.mono (bJ _)) λm=>by rw [aC.1 m];exact In.self⟩)
  (λv v' a=>by show (bif v i==1 then p else q)=_;rw [a i hi];rfl) (λv s=>by show inD _ (bif v i==1 then p else q);cases v i==1;exact fi.2;exact fi.1) (λv s Y=>Bm.trans (IQ (h12 v s))) (by show tP _<=_;rw [mD (G':=(G.add (.eo i p q) (UC x y)).sT [.eo i p q G.n]) rfl];exact aD f.2.2 bx.2.2)
 refine ⟨z,G',λK T m hO=>SE (Oh hs hxy hO.fs) (Rr (xs:=[.str Nm.pQ.str,.int i,.tuple [.int p,.int q]]) rfl rfl (aP rfl) o K T (m+1) (hO.up 1)),o.step.le (by decide),o.mem,o.eG,λv s=> ?_⟩
 rw [show (Vl.n p).sm.at v=p from cA p,show (Vl.n q).sm.at v=q from cA q]
 exact o.eq v s
theorem aDw (lb hb lc hc:Int):tP [(min lb lc,max hb hc)]<=max (max (ab lb) (ab hb)) (max (ab lc) (ab hc)):=by
 have a:ab (min lb lc)<=max (ab lb) (ab lc):=by rcases lV lb lc with l | l;rw [iW l];exact cH ..;rw [jG l];exact dJ ..
 have b:ab (max hb hc)<=max (ab hb) (ab hc):=by rcases lV hb hc with l | l;rw [gC l];exact dJ ..;rw [lQ l];exact cH ..
 show max (ab (min lb lc)) (ab (max hb hc))<=_
 exact gO.2 ⟨aD a (gO.2 ⟨aD (cH ..) (cH ..),aD (cH ..) (dJ ..)⟩),aD b (gO.2 ⟨aD (dJ ..) (cH ..),aD (dJ ..) (dJ ..)⟩)⟩
theorem YB {xb xc l h:Int} (g:Good X0 G) (R:nU G (j+1)) (hi:In G.n i) (mb:In G.n xb) (mc:In G.n xc) (h12:∀v,iK G v->v i=1\/v i=2) (rg:oQ [(l,h)]) (bd:∀v,iK G v->(l<=v xb/\v xb<=h)/\l<=v xc/\v xc<=h) (rD:tP [(l,h)]<=max (tP (G.eG xb)) (tP (G.eG xc))):∃z u G1 G',xR G (.el i xb xc) [(l,h)] [.el i xb xc z] z u G1 G':=
 have pr:=Pre.add (G':=(G.add (.el i xb xc) [(l,h)]).sT [.el i xb xc G.n]) rfl rfl
 yJ g (λz=>[.el i xb xc z]) R rg (aP rfl) (zD ⟨⟨aP rfl,λY m=>nomatch m⟩,λu m=>(aJ.1 m).elim (λe=>by rw [e];exact mb.mono (bJ _)) λm=>(aJ.1 m).elim (λe=>by rw [e];exact mc.mono (bJ _)) λm=>(aJ.1 m).elim (λe=>by rw [e];exact hi.mono (bJ _)) λm=>by rw [aC.1 m];exact In.self⟩)
  (λv v' a=>by show (bif v i==1 then v xb else v xc)=_;rw [a i hi,a xb mb,a xc mc];rfl) (λv s=>tC.2 (by show _<=(bif v i==1 then v xb else v xc)/\(bif v i==1 then v xb else v xc)<=_;cases v i==1;exact (bd v s).2;exact (bd v s).1)) (λv s Y=>Bm.trans (IQ (h12 v s))) ⟨⟨mb.mono pr.n,mc.mono pr.n⟩,by rw [pr.eG xb mb,pr.eG xc mc,mD (G':=(G.add (.el i xb xc) [(l,h)]).sT [.el i xb xc G.n]) rfl];exact rD⟩
theorem aGh (g:Good X0 G) (R:nU G (j+3)) (hi:In G.n i) (h12:∀v,iK G v->v i=1\/v i=2) (ob:wE G b.sm B) (oc:wE G c.sm C) (hB:B<=60) (hC:C<=60) (nb_:b.Pc=false) (nc:c.Pc=false) (kn:(!b.sH&& !b.sI)=false\/(!c.sH&& !c.sI)=false):∃z G',aMw G b c i (max B C) z G' 0:=by
 obtain ⟨xb,G1,w1⟩:=Ho g nofun (gQ b) ob hB (R.le (aS (j+1) 2))
 have e1:=w1.step.ext
 have oc1:=oc.mono e1.toPre (aW C)
 obtain ⟨xc,G2,w2⟩:=Ho w1.step.good nofun (gQ c) oc1 hC (w1.step.room (j+2) 0 R |>.le (bJ (j+1)))
 have e2:=w2.step.ext
 have p2:=e1.toPre.trans e2.toPre
 have mb:=w1.mem.mono e2.n
 have lb:=(w1.step.good.dm xb w1.mem).le (w1.step.good.dm xb w1.mem).QL
 have hb:=ob.b
 have hc:=oc.b
 have l1:min (G.bl b.sm) (G.bl c.sm)<=max (G.bh b.sm) (G.bh c.sm):=aD (lP ..) (aD (Nt G _) (cH ..))
 have bb:=e1.toPre.b2 oc
 have rg:=wF (B:=60) (wT.2 ⟨aD (jT hB) hb.1,aD (jT hC) hc.1⟩) l1 (gO.2 ⟨aD hb.2 hB,aD hc.2 hC⟩) (by decide)
 have at_ {v} (s:iK G2 v):v xb=b.sm.at v/\v xc=c.sm.at v:=⟨w1.eq v (e2.toPre.sol s),w2.eq v s⟩
 have db:tP (G2.eG xb)=max (ab (G.bl b.sm)) (ab (G.bh b.sm)):=by rw [e2.eG xb w1.mem];unfold tP;rw [w1.lo,w1.hi]
 have dc:tP (G2.eG xc)=max (ab (G.bl c.sm)) (ab (G.bh c.sm)):=by unfold tP;rw [w2.lo,w2.hi,bb.1,bb.2]
 have rb {l h M:Int} (a: -M<=l) (b:h<=M) (c:l<=h):max (ab l) (ab h)<=M:=gO.2 ⟨kM.2 ⟨a,aD c b⟩,kM.2 ⟨aD a c,b⟩⟩
 have rM:max (tP (G2.eG xb)) (tP (G2.eG xc))<=max B C:=by rw [db,dc];exact gO.2 ⟨aD (rb hb.1 hb.2 (Nt ..)) (cH ..),aD (rb hc.1 hc.2 (Nt ..)) (dJ ..)⟩
 have end_ {l h M x:Int} (a:l<=x) (b:x<=h) (m:max (ab l) (ab h)<=M):ab x<=M:=kM.2 ⟨aD (jT (aD (cH ..) m)) (aD (kM.1 (aW (ab l))).1 a),aD b (aD (kM.1 (aW (ab h))).2 (aD (dJ ..) m))⟩
 have rD:tP [(min (G.bl b.sm) (G.bl c.sm),max (G.bh b.sm) (G.bh c.sm))]<=max (tP (G2.eG xb)) (tP (G2.eG xc)):=by
  rw [db,dc]
  exact aDw _ _ _ _
 obtain ⟨z,u,G3,G',o⟩:=YB w2.step.good (w1.step.room (j+2) 0 R|>w2.step.room (j+1) 0) (hi.mono p2.n) mb w2.mem (λv s=>h12 v (p2.sol s)) rg.2 (λv s=>by
  have q1:=g.bounds (p2.sol s) λp m=>(ob.mem p m).1
  have q2:=g.bounds (p2.sol s) λp m=>(oc.mem p m).1
  rw [(at_ s).1,(at_ s).2]
  exact ⟨⟨aD (lP ..) q1.1,aD q1.2 (cH ..)⟩,aD (tB ..) q2.1,aD q2.2 (dJ ..)⟩) rD
 have e3:=o.step.ext
 exact ⟨z,G',λK T m hO=>YX kn nb_ nc (kF g b (ob.sm hB) K T m hO) (kF g c (oc.sm hC) K T m hO) (rZ l1 _) (w1.run K T m hO) (w2.run K T m hO) (Rr (xs:=[.str Nm.kA.str,.int i,.tuple [.int xb,.int xc]]) rfl rfl (aP rfl) o K T m hO),(w1.step.trans w2.step).trans o.step,o.mem,aD o.eG.2 (by rw [e3.eG xb mb,e3.eG xc w2.mem];exact rM),λv s=>by
  have a:=at_ (e3.toPre.sol s)
  rw [<-a.1,<-a.2];exact o.eq v s⟩
theorem LO (g:Good X0 G) (R:nU G (j+3)) (hi:In G.n i) (h12:∀v,iK G v->v i=1\/v i=2) (ob:wE G b.sm B) (oc:wE G c.sm C) (hB:B<=60) (hC:C<=60) (nb_:b.Pc=false) (nc:c.Pc=false):∃z G' d,aMw G b c i (max B C) z G' d:=by
 refine tf ((!b.sH&& !b.sI)&&(!c.sH&& !c.sI)) (λkn=> ?_) λkn=> ?_
 ·rcases b with p | s | t
  ·rcases c with q | s' | t'
   ·have R1:=R.le (aS (j+1) 2)
    have hp:ab p<=B:=ob.con
    have hq:ab q<=C:=oc.con
    have fin {x y:Int} (h:∃z G',aMw G (.n p) (.n q) i (max (ab p) (ab q)) z G' 1):∃z G' d,aMw G (.n p) (.n q) i (max B C) z G' d:=h.elim λz h=>h.elim λG' h=>⟨z,G',1,h.run,h.step,h.mem,aD h.tP (gO.2 ⟨aD hp (cH ..),aD hq (dJ ..)⟩),h.eq⟩
    refine fin (x:=p) (y:=q) (tf (decide (p<=q)) (λe=> ?_) λe=> ?_)
    ·have s:hJ [p,q]=[p,q]:=by show (if decide (p<=q)=true then [p,q] else [q,p])=_;rw [e];rfl
     exact SD g R1 hi h12 s (of_decide_eq_true e) (.inl ⟨rfl,rfl⟩) (aD hp hB) (aD hq hC)
    ·have s:hJ [p,q]=[q,p]:=by show (if decide (p<=q)=true then [p,q] else [q,p])=_;rw [e];rfl
     exact SD g R1 hi h12 s (dA (iA.1 (of_decide_eq_false e))) (.inr ⟨rfl,rfl⟩) (aD hp hB) (aD hq hC)
   ·exact lH kn
   ·exact lH nc.symm
  ·exact lH kn
  ·exact lH nb_.symm
 ·obtain ⟨z,G',h⟩:=aGh g R hi h12 ob oc hB hC nb_ nc (Bool.and_eq_false_iff.1 kn)
  exact ⟨z,G',0,h⟩
end
section
variable {x0:Int} {q m n:Nat} {A C:List (Nat×O)} {G G1 G2 G3 G4:GS} {P:List Tr} {a b c p1 pl r1 r2 ix:Vl} {w1 w2:Rw} {t:Tr} {x y z p:Int} {o:O} {d:Nat}
noncomputable abbrev Hv (x0:Int) (q:Nat) (A C:List (Nat×O)) (m:Nat) (xs:List aE) (G:GS) (P:List Tr) (n:Nat):St:=mX x0 q A (C++[(m,.list xs)]) G P n
theorem aJv:(do let l<-Of [];let r<-Ly (.list l);pure (.ref r):M V) (mX x0 q A C G P m)=some (.ref m,Hv x0 q A C m [] G P (m+1)):=by
 show some (V.ref m,St.mk (core ⟨x0,.ref q⟩ G++(A++(q,O.list (P.map Tr.enc))::C)++[(m,O.list [])]) (m+1))=some (V.ref m,St.mk (core ⟨x0,.ref q⟩ G++(A++(q,O.list (P.map Tr.enc))::(C++[(m,O.list [])]))) (m+1))
 rw [bU,bU];rfl
theorem Hw {P':List Tr} {G':GS} {n':Nat}:(mX x0 q A (C++[(m,o)]) G' P' n').objs.take (mX x0 q A C G P n).objs.length=(mX x0 q A C G' P' n').objs:=by
 rw [sR (G':=G') (P':=P') (m':=n')]
 show (core ⟨x0,.ref q⟩ G'++(A++(q,O.list (P'.map Tr.enc))::(C++[(m,o)]))).take (core ⟨x0,.ref q⟩ G'++(A++(q,O.list (P'.map Tr.enc))::C)).length=core ⟨x0,.ref q⟩ G'++(A++(q,O.list (P'.map Tr.enc))::C)
 rw [show core ⟨x0,.ref q⟩ G'++(A++(q,O.list (P'.map Tr.enc))::(C++[(m,o)]))=core ⟨x0,.ref q⟩ G'++(A++(q,O.list (P'.map Tr.enc))::C)++[(m,o)] by rw [bU,bU];rfl]
 exact Pz
structure aPd (G:GS) (a p1 pl r1 r2:Vl) (w1 w2:Rw):Prop where
 h1:∀ {st:St},Fs st.next st.objs->Run 32 none .pF [.d a.enc,iv 1,iv (-1)] st (.d p1.enc) ⟨st.objs,st.next+1⟩
 h2:∀ {st:St},Fs st.next st.objs->Run 32 none .pF [.d p1.enc,iv 0,iv 2] st (.d pl.enc) ⟨st.objs,st.next+1⟩
 h3:∀ {st:St},Fs st.next st.objs->Run 32 none .pF [iv 1,.d a.enc,iv (-1)] st (.d r1.enc) ⟨st.objs,st.next+1⟩
 h4:∀ {st:St},Fs st.next st.objs->Run 32 none .pF [.d a.enc,iv 2,iv (-1)] st (.d r2.enc) ⟨st.objs,st.next+1⟩
 k1:Me 60 .gW [.d Kd.le.s,.d r1.enc] G (.d w1.enc) G 0
 k2:Me 60 .gW [.d Kd.le.s,.d r2.enc] G (.d w2.enc) G 0
noncomputable def XN (w1 w2:Rw):Bool:=[w1.enc,w2.enc].any λy=>dC y (Tr.enc (.b false))
theorem WD (hO:Oo q A C m) (o:O) (d:Nat):Oo q A (C++[(m,o)]) (m+1+d):=(hO.push o).up d
noncomputable def Sp (e:aPd G a p1 pl r1 r2 w1 w2) (hO:Oo q A C m) (x0:Int) (P:List Tr) (b c:Vl):List Ent:=
 have f (xs:List aE) (n:Nat) (G:GS):Fs (m+1+n) (Hv x0 q A C m xs G P (m+1+n)).objs:=((WD hO (.list xs) n).ok (.list (P.map Tr.enc))).fs
 have k (n:Nat):=kS (k:=1) (aDy (x0:=x0) (G:=G) (P:=P) (n:=n) (o:= .list []) hO).1 rfl
 [eP 17 (aJv (x0:=x0) (q:=q) (A:=A) (C:=C) (G:=G) (P:=P) (m:=m)),eC (e.h1 (st:=Hv x0 q A C m [] G P (m+1)) (f [] 0 G)),eC (e.h2 (st:=Hv x0 q A C m [] G P (m+2)) (f [] 1 G)),eN (k (m+3)),eC (e.h3 (st:=Hv x0 q A C m [] G P (m+3)) (f [] 2 G)),eC (e.h4 (st:=Hv x0 q A C m [] G P (m+4)) (f [] 3 G)),eN (k (m+5)),
  eP 8 (OI (x0:=x0) (G:=G) (P:=P) (n:=m+5) (xs:=[]) (ys:=[r1.enc,r2.enc]) hO (aP rfl)),eP 3 (eq_nil (x:=b.enc) (xs:=[c.enc]) (st:=Hv x0 q A C m [r1.enc,r2.enc] G P (m+5))),eI (OH (x0:=x0) (G:=G) (P:=P) (n:=m+5) (xs:=[r1.enc,r2.enc]) hO),eC ((e.k1.p P) x0 q A (C++[(m,.sJ [r1.enc,r2.enc])]) (m+5) (WD hO _ 4)),eC ((e.k2.p P) x0 q A (C++[(m,.sJ [r1.enc,r2.enc])]) (m+5) (WD hO _ 4)),eU 16 (OG (x0:=x0) (G:=G) (P:=P) (n:=m+5) (xs:=[r1.enc,r2.enc]) hO)]
noncomputable abbrev aNg (a b c:Vl):List V:=[.d (.tuple [.tuple [.tuple [.int 1,.int 2]],.list [b.enc,c.enc]]),.d (.list [a.enc]),iv 0]
theorem EK {w:Bool} (h:XN w1 w2=w) (st:St):nC .Oj (.d (.bool false)) (.d (.list [w1.enc,w2.enc])) st=some (bv w,st):=by rw [<-h];exact QJ [w1.enc,w2.enc] (.b false) st
theorem aKm (h:t≠ .b true) (st:St):nC .ne (.d t.enc) (.d (.bool true)) st=some (bv true,st):=by
 rcases t with ⟨_ | _⟩ | ⟨y,u⟩
 ·rfl
 ·exact absurd rfl h
 ·rfl
theorem ne_nil {x:aE} {xs:List aE} {st:St}:nC .ne (.d (.list (x::xs))) (.d (.list [])) st=some (bv true,st):=aY (a:= .list (x::xs)) rfl (aY (a:= .list []) rfl (aY (a:=()) (by unfold Xd;rw [decide_eq_true (aB (gT ..) (by decide))];rfl) rfl))
section
variable (e:aPd G a p1 pl r1 r2 w1 w2) (hO:Oo q A C m) (hP:P.length<=900)
include e hO hP
theorem YC (hF:XN w1 w2=true):Run 160 (some .func) .kA (mM::aNg a b c) (mX x0 q A C G P m) (.d b.enc) (mX x0 q A C G (jQ P (.b false)) (m+5)):=Run.put (st':=Hv x0 q A C m [r1.enc,r2.enc] G (jQ P (.b false)) (m+5)) Hw (Sp e hO x0 P b c++[eP 3 (EK hF (Hv x0 q A C m [r1.enc,r2.enc] G P (m+5))),eC (Ab (G:=G) (aB hP (by decide)) (.b false) x0 q A (C++[(m,.list [r1.enc,r2.enc])]) (m+5) (WD hO _ 4)),eP 3 (ne_nil (x:=b.enc) (xs:=[c.enc]) (st:=Hv x0 q A C m [r1.enc,r2.enc] G (jQ P (.b false)) (m+5)))]) (by kernel_rfl)
section
variable (hF:XN w1 w2=false) {t1 t2:Tr} (t1r:Me 100 .gG [.d Kd.le.s,.d r1.enc] G (.d t1.enc) G1 0) (t2r:Me 100 .gG [.d Kd.le.s,.d r2.enc] G1 (.d t2.enc) G2 0) (tr:Me 90 .jC [nA [t1,t2]] G2 (.d t.enc) G3 1)
include hF t1r t2r tr
theorem aFp (hp:pl= .n p):Run 160 (some .func) .kA (mM::aNg a b c) (mX x0 q A C G P m) (.d (bif decide (p=1) then c else b).enc) (mX x0 q A C G3 (jQ (jQ P t) (.b (decide (0<=p)&&decide (p<2)))) (m+6)):=by
 subst hp
 have w:=Qc (x0:=x0) (n:=m+5) hO (aS (m+1) 4) (aB hP (by decide)) t1r t2r tr
 have nt (b):=Ab (G:=G3) (P:=jQ P t) (aB (Ga P t).2.1 (aB (bK hP) (by decide))) (.b b) x0 q A (C++[(m,.list [r1.enc,r2.enc])]) (m+6) (WD hO _ 5)
 by_cases h0:0<=p
 ·by_cases h2:p<2
  ·have n:=nt true
   have hp:p=0\/p=1:=(cG h0).symm.imp Jj λl=>dU (cM h2) l
   rw [decide_eq_true h0,decide_eq_true h2]
   rcases hp with rfl | rfl
   ·exact Run.put (st':=Hv x0 q A C m [r1.enc,r2.enc] G3 (jQ (jQ P t) (.b true)) (m+6)) Hw (Sp e hO x0 P b c++[eP 3 (EK hF (Hv x0 q A C m [r1.enc,r2.enc] G P (m+5))),eC w,eC n]) (by kernel_rfl)
   ·exact Run.put (st':=Hv x0 q A C m [r1.enc,r2.enc] G3 (jQ (jQ P t) (.b true)) (m+6)) Hw (Sp e hO x0 P b c++[eP 3 (EK hF (Hv x0 q A C m [r1.enc,r2.enc] G P (m+5))),eC w,eC n]) (by kernel_rfl)
  ·have n:=nt false
   have p1:p≠1:=λe=>h2 (by rw [e];decide)
   rw [decide_eq_true h0,decide_eq_false h2,decide_eq_false p1]
   exact Run.put (st':=Hv x0 q A C m [r1.enc,r2.enc] G3 (jQ (jQ P t) (.b false)) (m+6)) Hw (Sp e hO x0 P b c++[eP 3 (EK hF (Hv x0 q A C m [r1.enc,r2.enc] G P (m+5))),eC w,eQ (Hv x0 q A C m [r1.enc,r2.enc] G3 (jQ P t) (m+6)) (decide_eq_true h0),eQ (Hv x0 q A C m [r1.enc,r2.enc] G3 (jQ P t) (m+6)) (decide_eq_false h2),eC n,eQ (Hv x0 q A C m [r1.enc,r2.enc] G3 (jQ (jQ P t) (.b false)) (m+6)) (decide_eq_true h0),eQ (Hv x0 q A C m [r1.enc,r2.enc] G3 (jQ (jQ P t) (.b false)) (m+6)) (decide_eq_false h2)]) (by kernel_rfl)
 ·have n:=nt false
  have p1:p≠1:=λe=>h0 (by rw [e];decide)
  rw [decide_eq_false h0,decide_eq_false p1]
  exact Run.put (st':=Hv x0 q A C m [r1.enc,r2.enc] G3 (jQ (jQ P t) (.b false)) (m+6)) Hw (Sp e hO x0 P b c++[eP 3 (EK hF (Hv x0 q A C m [r1.enc,r2.enc] G P (m+5))),eC w,eQ (Hv x0 q A C m [r1.enc,r2.enc] G3 (jQ P t) (m+6)) (decide_eq_false h0),eC n,eQ (Hv x0 q A C m [r1.enc,r2.enc] G3 (jQ (jQ P t) (.b false)) (m+6)) (decide_eq_false h0)]) (by kernel_rfl)
theorem aFo {ps:Sm} {G5 G6:GS} {v:aE} (hp:pl= .s ps) (h5:∀ {st:St},Fs st.next st.objs->Run 32 none .pF [.d pl.enc,iv 1,iv 1] st (.d ix.enc) ⟨st.objs,st.next+1⟩) (h6:Me 60 .jV [.d ix.enc] G3 (iv x) G4 0) (hs:(t= .b true/\z=x/\G5=G4)\/(t≠ .b true/\Me 80 .pD [iv x,.d t.enc,.d (eJ [(1,2)])] G4 (iv z) G5 0)) (h7:Me 90 .rE [iv z,.d (.list [b.enc,c.enc])] G5 (.d v) G6 d):
  Run 160 (some .func) .kA (mM::aNg a b c) (mX x0 q A C G P m) (.d v) (mX x0 q A C G6 (jQ P t) (m+7+d)):=by
 have w:=Qc (x0:=x0) (n:=m+5) hO (aS (m+1) 4) (aB hP (by decide)) t1r t2r tr
 have f:=h5 (st:=Hv x0 q A C m [r1.enc,r2.enc] G3 (jQ P t) (m+6)) (((WD hO (.list [r1.enc,r2.enc]) 5).ok (.list ((jQ P t).map Tr.enc)))).fs
 have k6:=(h6.p (jQ P t)) x0 q A (C++[(m,.list [r1.enc,r2.enc])]) (m+7) (WD hO _ 6)
 have k7:=(h7.p (jQ P t)) x0 q A (C++[(m,.list [r1.enc,r2.enc])]) (m+7) (WD hO _ 6)
 subst hp
 rcases hs with ⟨rfl,rfl,rfl⟩ | ⟨ht,hs⟩
 ·exact Run.put (st':=Hv x0 q A C m [r1.enc,r2.enc] G6 (jQ P (.b true)) (m+7+d)) Hw (Sp e hO x0 P b c++[eP 3 (EK hF (Hv x0 q A C m [r1.enc,r2.enc] G P (m+5))),eC w,eC f,eC k6,eC k7]) (by kernel_rfl)
 ·have k8:=(hs.p (jQ P t)) x0 q A (C++[(m,.list [r1.enc,r2.enc])]) (m+7) (WD hO _ 6)
  have rg:=rZ (show (1:Int)<=2 by decide) (Hv x0 q A C m [r1.enc,r2.enc] G4 (jQ P t) (m+7))
  exact Run.put (st':=Hv x0 q A C m [r1.enc,r2.enc] G6 (jQ P t) (m+7+d)) Hw (Sp e hO x0 P b c++[eP 3 (EK hF (Hv x0 q A C m [r1.enc,r2.enc] G P (m+5))),eC w,eC f,eC k6,eP 3 (aKm ht (Hv x0 q A C m [r1.enc,r2.enc] G4 (jQ P t) (m+7))),eC rg,eC k8,eC k7]) (by kernel_rfl)
end
end
end
section
variable {G G':GS} {a b c:Vl} {P:List Tr} {v:Int->Int} {j:Nat} {A B C:Int} {w w1 w2:Rw} {x:Int}
theorem aLm (h:dC w.enc (Tr.enc (.b false))=true):w= .b false:=by
 cases w with
 | b u=>exact congrArg Rw.b (eq_of_beq h)
 | l q=>exact lH h
theorem aOn (x:Int):Kd.rel .le (1+0+ -1*x)=decide (1<=x):=decide_eq_decide.2 (by rw [Cj];exact ⟨gP,fV⟩)
theorem aOm (x:Int):Kd.rel .le (x+ -1*(2+0))=decide (x<=2):=decide_eq_decide.2 ⟨gP (a:=x) (b:=2),fV (a:=x) (b:=2)⟩
theorem NV {z B:Int} (m:In G.n z) (r:tP (G.eG z)<=B):wE G ⟨[(z,1)],0⟩ (B+1):=⟨fP ..,λp h=>by rw [aC.1 h];exact ⟨m,show (1:Int)≠0 by decide⟩,by
 show 0+(1*(tP (G.eG z)+1)+0)<=B+1
 rw [fD,cA,iE]
 exact bQ r 1⟩
theorem aDe (z:Int) (v:Int->Int):(⟨[(z,1)],0⟩:Sm).at v=v z:=by
 show 0+(1*v z+0)=v z
 rw [fD,cA,iE]
theorem WN (P:List Tr) (w:Bool):nb (jQ P (.b w))<=nb P:=by
 cases w with
 | true=>exact bM _
 | false=>exact dR (motive:=λP=>nb (P++[.b false])<=nb P) (bM _) (λt r i=>by cases t;exact i;exact bK i) P
theorem EQ (g:Good X0 G) (hP:P.length<=900) (R:nU G (j+10)) (oa:wE G a.sm A) (ob:wE G b.sm B) (oc:wE G c.sm C) (nb_:b.Pc=false) (nc:c.Pc=false) (hA:A<=50) (hB:B<=60) (hC:C<=60):
  ∃r G' P' d,aMn G 160 .kA (aNg a b c) P r G' P' d 10 (max B C+1) (λv=>decide (1<=a.sm.at v)&&decide (a.sm.at v<=2)) λv=>bif a.sm.at v==1 then b.sm.at v else c.sm.at v:=by
 refine aBj λQ qed=> ?_
 have h50 {k i:Int}:A+k<=50+k:=bQ hA k
 obtain ⟨p1,q1⟩:=vY (k:= -1) oa (wB (i:=1) (B:=1) (by decide)) (.inl rfl) (aD (bQ hA _) (by decide))
 obtain ⟨pl,q2⟩:=vY (k:=2) q1.ok (wB (i:=0) (B:=0) (by decide)) (.inr rfl) (aD (bQ (bQ hA _) _) (by decide))
 obtain ⟨r1,q3⟩:=vY (k:= -1) (wB (G:=G) (i:=1) (B:=1) (by decide)) oa (.inl rfl) (aD (fM (dW hA (rH _)) _) (by decide))
 obtain ⟨r2,q4⟩:=vY (k:= -1) oa (wB (i:=2) (B:=2) (by decide)) (.inl rfl) (aD (bQ hA _) (by decide))
 have u3:1+ab (-1)*A<=60:=aD (fM (dW hA (rH _)) _) (by decide)
 have u4:A+ab (-1)*2<=60:=aD (bQ hA _) (by decide)
 have b3:=kF g r1 (q3.ok.sm u3)
 have b4:=kF g r2 (q4.ok.sm u4)
 obtain ⟨w1,k1⟩:=Ww (k:= .le) g (gQ r1) b3 q3.ok u3
 obtain ⟨w2,k2⟩:=Ww (k:= .le) g (gQ r2) b4 q4.ok u4
 have e:aPd G a p1 pl r1 r2 w1 w2:=⟨q1.run,q2.run,q3.run,q4.run,k1.run,k2.run⟩
 have a1 (v):Kd.rel .le (r1.sm.at v)=decide (1<=a.sm.at v):=by rw [q3.eq v];exact aOn _
 have a2 (v):Kd.rel .le (r2.sm.at v)=decide (a.sm.at v<=2):=by rw [q4.eq v];exact aOm _
 have al (v):pl.sm.at v=a.sm.at v+ -1*(1+0)+2*(0+0):=by rw [q2.eq v,q1.eq v];rfl
 refine tf (XN w1 w2) (λhF=> ?_) λhF=> ?_
 ·have no (v) (s:iK G v):(decide (1<=a.sm.at v)&&decide (a.sm.at v<=2))=false:=by
   rw [<-a1 v,<-a2 v]
   rcases gY.1 (show (dC w1.enc (Tr.enc (.b false))||(dC w2.enc (Tr.enc (.b false))||false))=true from hF) with h | h
   ·rw [k1.b false (aLm h) v s];rfl
   ·rw [Gv] at h;rw [k2.b false (aLm h) v s];exact mS _
  have q:=Ga P (.b false)
  exact qed ⟨b,G,jQ P (.b false),5,λx0 z A C m hO=>YC e hO hP hF,.refl g 10,ob.mono Pre.refl (aD (cH ..) (dA (mZ _))),nb_,λh t m=>(q.2.2.1 t m).elim (h t) λe=>by rw [e];trivial,q.1,aB q.2.1 (bE (by decide) _),λv s=>by rw [q.2.2.2 v,no v s];rfl,λv s n=>lH ((no v s).symm.trans n)⟩
 ·obtain ⟨t1,G1,y1⟩:=sA (k:= .le) g (R.le (aS (j+1) 9)) (gQ r1) b3 q3.ok u3
  have ok1:=q4.ok.mono y1.step.ext.toPre (aW _)
  obtain ⟨t2,G2,y2⟩:=sA (k:= .le) y1.step.good (y1.step.room (j+9) 0 R |>.le (aS (j+1) 8)) (gQ r2) (kF y1.step.good r2 (ok1.sm u4)) ok1 u4
  obtain ⟨t,G3,y3⟩:=Tj (ts:=[t1,t2]) y2.step.good (y2.step.room (j+8) 0 (y1.step.room (j+9) 0 R) |>.le (aS (j+1) 7)) (λu m=>(aJ.1 m).elim (λe=>by rw [e];exact y1.ok.mono y2.step.ext.toPre) λm=>by rw [aC.1 m];exact y2.ok) (aP rfl) (by cases t1<;>cases t2<;>exact aP rfl)
  have st3:=(y1.step.trans y2.step).trans y3.step
  have p3:=st3.ext.toPre
  have at3 {v} (s:iK G3 v):t.at v=(decide (1<=a.sm.at v)&&decide (a.sm.at v<=2)):=by
   have s2:=y3.step.ext.toPre.sol s
   rw [y3.eq v s,<-a1 v,<-a2 v,<-y1.eq v (y2.step.ext.toPre.sol s2),<-y2.eq v s2]
   exact congrArg (_&& ·) (hV _)
  have q:=Ga P t
  rcases pl with p | ps | tt
  ·have ap (v):a.sm.at v=p+1:=by have h:p+0=_:=al v;omega
   have q':=Ga (jQ P t) (.b (decide (0<=p)&&decide (p<2)))
   have nn (v):(decide (1<=a.sm.at v)&&decide (a.sm.at v<=2))=(decide (0<=p)&&decide (p<2)):=by
    rw [ap v,show decide (1<=p+1)=decide (0<=p) from decide_eq_decide.2 (Int.add_le_add_iff_right (a:=0) (b:=p) 1)];rfl
   refine qed ⟨bif decide (p=1) then c else b,G3,jQ (jQ P t) (.b (decide (0<=p)&&decide (p<2))),6,λx0 z A C m hO=>aFp e hO hP hF y1.run y2.run y3.run rfl,st3.le (by decide),?_,?_,λh u m=> ?_,?_,?_,λv s=> ?_,λv s n=> ?_⟩
   ·cases decide (p=1)
    ·exact ob.mono p3 (aD (cH ..) (dA (mZ _)))
    ·exact oc.mono p3 (aD (dJ ..) (dA (mZ _)))
   ·cases decide (p=1)
    ·exact nb_
    ·exact nc
   ·exact (q'.2.2.1 u m).elim (λm=>(q.2.2.1 u m).elim (λm=>(h u m).mono p3) λe=>by rw [e];exact y3.ok) λe=>by rw [e];trivial
   ·exact aB (WN _ _) q.1
   ·exact aB q'.2.1 (bK (aB q.2.1 (bJ _)))
   ·rw [q'.2.2.2 v,q.2.2.2 v,at3 s,nn v,Ea];exact congrArg (_&& ·) (Bool.and_self _)
   ·rw [nn v] at n
    have n:=aM.1 n
    have n1:=of_decide_eq_true n.1
    have n2:=of_decide_eq_true n.2
    refine tf (decide (p=1)) (λh=> ?_) λh=> ?_
    ·rw [h,ap v,of_decide_eq_true h];rfl
    ·have p0:p=0:=(cG n1).elim (λl=>absurd (dU (cM n2) l) (of_decide_eq_false h)) Jj
     rw [h,ap v,p0];rfl
  ·have u5:A+ab (-1)*1+ab 2*0+ab 1*1<=60:=aD (bQ (bQ (bQ hA _) _) _) (by decide)
   obtain ⟨ix,q5⟩:=vY (k:=1) (q2.ok.mono p3 (aW _)) (wB (G:=G3) (i:=1) (B:=1) (by decide)) (.inl rfl) u5
   have ai (v):ix.sm.at v=a.sm.at v:=by have h:=q5.eq v;have h2:=al v;rw [h2] at h;rw [h];show a.sm.at v+_+_+1*(1+0)=_;omega
   have R3:=y3.step.room (j+7) 0 (y2.step.room (j+8) 0 (y1.step.room (j+9) 0 R))
   obtain ⟨x,G4,y4⟩:=Ho y3.step.good nofun (gQ ix) q5.ok u5 (R3.le (aS (j+1) 6))
   have R4:=y4.step.room (j+6) 0 R3
   have p4:=p3.trans y4.step.ext.toPre
   have s3 {v} (s:iK G4 v):=y4.step.ext.toPre.sol s
   have vx {v} (s:iK G4 v):v x=a.sm.at v:=(y4.eq v s).trans (ai v)
   have r12 {v} (h:(decide (1<=a.sm.at v)&&decide (a.sm.at v<=2))=true):1<=a.sm.at v/\a.sm.at v<=2:=by have h:=aM.1 h;exact ⟨of_decide_eq_true h.1,of_decide_eq_true h.2⟩
   have i12 {y:Int} (h:1<=y/\y<=2):y=1\/y=2:=(cG h.1).symm.imp Jj λl=>dU h.2 l
   have fin (z:Int) (G5:GS) (st:Step X0 G4 G5 3) (hz:In G5.n z) (hs:(t= .b true/\z=x/\G5=G4)\/(t≠ .b true/\Me 80 .pD [iv x,.d t.enc,.d (eJ [(1,2)])] G4 (iv z) G5 0)) (z12:∀v,iK G5 v->v z=1\/v z=2) (ze:∀v,iK G5 v->t.at v=true->v z=v x):Q:=by
    have p5:=p4.trans st.ext.toPre
    obtain ⟨zz,G6,d,y6⟩:=LO st.good (st.room (j+3) 0 R4) hz z12 (ob.mono p5 (aW _)) (oc.mono p5 (aW _)) hB hC nb_ nc
    have p6:=p5.trans y6.step.ext.toPre
    have s5 {v} (s:iK G6 v):=y6.step.ext.toPre.sol s
    have s4 {v} (s:iK G6 v):=st.ext.toPre.sol (s5 s)
    have at6 {v} (s:iK G6 v):=at3 (s3 (s4 s))
    refine qed ⟨.s ⟨[(zz,1)],0⟩,G6,jQ P t,7+d,λx0 z A C m hO=>(by have h:=aFo (x0:=x0) e hO hP hF y1.run y2.run y3.run rfl q5.run y4.run hs y6.run;rwa [bL] at h),((st3.trans y4.step).trans st).trans y6.step,NV y6.mem y6.tP,rfl,λh u m=>(q.2.2.1 u m).elim (λm=>(h u m).mono p6) λe=>by rw [e];exact ((y3.ok.mono y4.step.ext.toPre).mono st.ext.toPre).mono y6.step.ext.toPre,q.1,aB q.2.1 (bE (by decide) _),λv s=>by rw [q.2.2.2 v,at6 s],λv s n=> ?_⟩
    refine (aDe zz v).trans ?_
    rw [y6.eq v s,ze v (s5 s) ((at6 s).trans n),vx (s4 s)]
   by_cases ht:t= .b true
   ·exact fin x G4 ((Step.refl y4.step.good 0).le (by decide)) y4.mem (.inl ⟨ht,rfl,rfl⟩) (λv s=>by rw [vx s];exact i12 (r12 (by rw [<-at3 (s3 s),ht];rfl))) λY Y Y=>rfl
   ·obtain ⟨z,G5,y5⟩:=Zr (D:=[(1,2)]) y4.step.good y4.mem (y3.ok.mono y4.step.ext.toPre) (Hx (by decide) (by decide) (by decide)) (λv s h=>tC.2 (by rw [vx s];exact r12 ((at3 (s3 s)).symm.trans h))) (R4.le (bM (j+6)) |>.le (aS (j+3) 3))
    exact fin z G5 y5.step y5.mem (.inr ⟨ht,y5.run⟩) (λv s=>i12 (tC.1 (by have:=s.eG z y5.mem;rwa [y5.eG] at this))) λv s h=>by rw [y5.eq v s,h];rfl
  ·exact lH q2.ns.symm
end
noncomputable def Sg.enc:Sg->aE
 | .le=> .str Nm.Tu.str
 | .lt=> .str Nm.Qp.str
 | .eq=> .str Nm.s_eq.str
 | .ne=> .str Nm.Qo.str
 | .ge=> .str Nm.Qr.str
 | .gt=> .str Nm.Qq.str
noncomputable def Sg.rel (s:Sg) (a c:Int):Bool:=match s with
 | .le=>decide (a<=c)
 | .lt=>decide (a<c)
 | .eq=>a==c
 | .ne=> !(a==c)
 | .ge=>decide (a>=c)
 | .gt=>decide (a>c)
section
variable {G G':GS} {a b:Vl} {t:Tr} {j d:Nat} {A B:Int} {s:Sg}
theorem aNd {K:Kx} {G:GS} {T:List (Nat×O)} {m:Nat} (hO:Ok T m):Fs (cR K G T m).next (cR K G T m).objs:=hO.fs
theorem aLn (g:Good X0 G) (R:nU G (j+1)) (oa:wE G a.sm A) (ob:wE G b.sm B) (na:a.Pc=false) (h:A+ab (-1)*B<=60):∃t G',Tm G 115 .Oy [.d a.enc,.d b.enc] t G' 1 1 λv=>a.sm.at v==b.sm.at v:=by
 obtain ⟨r,q⟩:=vY (k:= -1) oa ob (.inl rfl) h
 obtain ⟨t,G',y⟩:=sA (k:= .eq) g R (gQ r) (kF g r (q.ok.sm h)) q.ok h
 refine ⟨t,G',λK T m hO=> ?_,y.step,y.ok,λv s=> ?_⟩
 ·have k:=vX a (cR K G T m)
  rw [na] at k
  exact Run.same rfl [eC k,eC (q.run (aNd (K:=K) (G:=G) hO)),eC (y.run K T (m+1) (hO.up 1))] (by kernel_rfl)
 ·rw [y.eq v s,q.eq v]
  show (_+ -1*_==0)=_
  rw [Dx,iE,<-nH,iX,beq_iff_eq,beq_iff_eq,iV]
theorem aAz (g:Good X0 G) (R:nU G (j+1)) (oa:wE G a.sm A) (ob:wE G b.sm B) (h:A+ab (-1)*B<=50) (w:Bool):∃t G',Tm G 120 .tH [.d (Sg.enc (bif w then .lt else .le)),.d a.enc,.d b.enc] t G' 2 1 λv=>Sg.rel (bif w then .lt else .le) (a.sm.at v) (b.sm.at v):=by
 obtain ⟨p,q⟩:=vY (k:= -1) oa ob (.inl rfl) (aD h (by decide))
 have o1:=wB (G:=G) (i:=bif w then 1 else 0) (B:=1) (by cases w<;>decide)
 have h2:A+ab (-1)*B+ab 1*1<=60:=aD (bQ h _) (by decide)
 obtain ⟨r,q2⟩:=vY (k:=1) q.ok o1 (.inl rfl) h2
 obtain ⟨t,G',y⟩:=sA (k:= .le) g R (gQ r) (kF g r (q2.ok.sm h2)) q2.ok h2
 refine ⟨t,G',λK T m hO=> ?_,y.step,y.ok,λv s=> ?_⟩
 ·have k1:=q.run (aNd (K:=K) (G:=G) hO)
  have k2:=q2.run (aNd (K:=K) (G:=G) (hO.up 1))
  have k3:=y.run K T (m+2) (hO.up 2)
  cases w<;>exact Run.same rfl [eC k1,eC k2,eC k3] (by kernel_rfl)
 ·rw [y.eq v s,q2.eq v,q.eq v]
  show decide (_+ -1*_+1*((bif w then 1 else 0)+0)<=0)=_
  cases w
  ·exact decide_eq_decide.2 (by rw [Cj];exact ⟨λh=>gP (cA (_ - _)▸h),λh=>(cA (_ - _)).symm▸fV h⟩)
  ·exact decide_eq_decide.2 (by rw [Cj,Hl];exact ⟨gP,fV⟩)
theorem BT (g:Good X0 G) (R:nU G (j+1)) (oa:wE G a.sm A) (ob:wE G b.sm B) (na:a.Pc=false) (h:A+ab (-1)*B<=50):∃t G' d,Tm G 140 .tH [.d s.enc,.d a.enc,.d b.enc] t G' d 1 λv=>s.rel (a.sm.at v) (b.sm.at v):=by
 have no {x y:Int} {p q:Prop} [Decidable p] [Decidable q] (h:p↔¬q):(!decide q)=decide p:=by rw [<-decide_not];exact decide_eq_decide.2 h.symm
 obtain ⟨t,G',y⟩:=aLn g R oa ob na (aD h (by decide))
 obtain ⟨t1,G1,y1⟩:=aAz g R oa ob h false
 obtain ⟨t2,G2,y2⟩:=aAz g R oa ob h true
 cases s with
 | le=>exact ⟨t1,G1,2,λK T m hO=>(y1.run K T m hO).up (by decide),y1.step,y1.ok,y1.eq⟩
 | lt=>exact ⟨t2,G2,2,λK T m hO=>(y2.run K T m hO).up (by decide),y2.step,y2.ok,y2.eq⟩
 | eq=>exact ⟨t,G',1,λK T m hO=>Run.same rfl [eC (y.run K T m hO)] (by kernel_rfl),y.step,y.ok,y.eq⟩
 | ne=>exact ⟨t.no,G',1,λK T m hO=>Run.same rfl [eC (y.run K T m hO),eC (fY t (cR K G' T (m+1)))] (by kernel_rfl),y.step,y.ok.no,λv s=>by rw [Tr.xO,y.eq v s];rfl⟩
 | ge=>exact ⟨t2.no,G2,2,λK T m hO=>Run.same rfl [eC (y2.run K T m hO),eC (fY t2 (cR K G2 T (m+2)))] (by kernel_rfl),y2.step,y2.ok.no,λv s=>by rw [Tr.xO,y2.eq v s];exact no (x:=0) (y:=0) dD.symm⟩
 | gt=>exact ⟨t1.no,G1,2,λK T m hO=>Run.same rfl [eC (y1.run K T m hO),eC (fY t1 (cR K G1 T (m+2)))] (by kernel_rfl),y1.step,y1.ok.no,λv s=>by rw [Tr.xO,y1.eq v s];exact no (x:=0) (y:=0) iA.symm⟩
end
inductive Tree where
 | x | y
 | is (i:Int)
 | op (k:Nat) (a b:Tree)
 | pick (a b c:Tree)
noncomputable def aQl (k:Nat):aE:=match k with
 | 0=> .str Nm.nM.str
 | 1=> .str Nm.jW.str
 | _=> .str Nm.Xm.str
noncomputable def Tree.enc:Tree->aE
 | .x=> .tuple [.str Nm.kN.str]
 | .y=> .tuple [.str Nm.tE.str]
 | .is i=> .tuple [.str Nm.WP.str,.int i]
 | .op k a b=> .tuple [aQl k,a.enc,b.enc]
 | .pick a b c=> .tuple [.str Nm.Xk.str,a.enc,b.enc,c.enc]
noncomputable def aAs (k:Nat) (p q:Int):Option Int:=match k with
 | 0=>bif q==0 then none else some (p.tdiv q)
 | 1=>bif q==0 then none else some (p.tmod q)
 | _=>some (p+q)
noncomputable def Tree.val (x y:Int):Tree->Option Int
 | .x=>some x
 | .y=>some y
 | .is i=>some i
 | .op k a b=>(a.val x y).bind λp=>(b.val x y).bind λq=>aAs k p q
 | .pick a b c=>(a.val x y).bind λp=>(b.val x y).bind λq=>(c.val x y).bind λr=>bif decide (1<=p)&&decide (p<=2) then some (bif p==1 then q else r) else none
inductive Lf:Tree->Prop
 | x:Lf .x
 | y:Lf .y
 | is {i:Int}:ab i<=2->Lf (.is i)
noncomputable def Tree.lf:Tree->Vl
 | .x=> .s ⟨[(0,1)],0⟩
 | .y=> .s ⟨[(1,1)],0⟩
 | .is i=> .n i
 | _=> .n 0
structure Xy (G:GS):Prop where
 x:In G.n 0/\tP (G.eG 0)<=1
 y:In G.n 1/\tP (G.eG 1)<=1
structure aMs (L:Nat) (G:GS) (P:List Tr) (t:Tree) (M:Int) (n:Nat) (r:Vl) (G':GS) (P':List Tr) (d:Nat):Prop where
 run:∀z q A C m,Oo q A C m->Run L none .nP [mM,.d t.enc] (mX z q A C G P m) (.d r.enc) (mX z q A C G' P' (m+d))
 step:Step X0 G G' (10*n)
 ok:wE G' r.sm M
 ns:r.Pc=false
 tr:(∀t,t∈P->nR G t)->∀t,t∈P'->nR G' t
 nb:nb P'<=nb P+n
 len:P'.length<=P.length+3*n
 nt:∀v,iK G' v->P'.all (Tr.at v)=(P.all (Tr.at v)&&(t.val (v 0) (v 1)).isSome)
 eq:∀v i,iK G' v->t.val (v 0) (v 1)=some i->r.sm.at v=i
noncomputable def xS (L:Nat) (t:Tree) (M:Int) (n:Nat):Prop:=∀ (G:GS) (P:List Tr) (j:Nat),Good X0 G->Xy G->(∃v,iK G v)->P.length<=100->nU G (j+10*n)->∃r G' P' d,aMs L G P t M n r G' P' d
section
variable {G G':GS} {P:List Tr} {t a b c:Tree} {v:Int->Int} {z:Int} {q m:Nat} {A C:List (Nat×O)} {K:Kx} {T:List (Nat×O)} {M:Int} {n:Nat}
theorem Xy.mono (p:Pre G G') (h:Xy G):Xy G':=⟨⟨h.x.1.mono p.n,by rw [p.eG 0 h.x.1];exact h.x.2⟩,h.y.1.mono p.n,by rw [p.eG 1 h.y.1];exact h.y.2⟩
theorem Mi (h:Lf t) (K:Kx) (G:GS) (T:List (Nat×O)) (m:Nat):Run 30 none .nP [mM,.d t.enc] (cR K G T m) (.d t.lf.enc) (cR K G T m):=by
 cases h<;>exact Run.same rfl [] (by kernel_rfl)
theorem Vj (h:Lf t) (x:Xy G):wE G t.lf.sm 2/\t.lf.Pc=false/\∀v:Int->Int,t.val (v 0) (v 1)=some (t.lf.sm.at v):=by
 cases h with
 | x=>exact ⟨NV x.x.1 x.x.2,rfl,λv=>congrArg some (aDe 0 v).symm⟩
 | y=>exact ⟨NV x.y.1 x.y.2,rfl,λv=>congrArg some (aDe 1 v).symm⟩
 | is i=>exact ⟨wB i,rfl,λv=>congrArg some (cA _).symm⟩
theorem WY (h:Lf t):xS 30 t 2 0:=λG P j g x Y Y Y=>
 have o:=Vj h x
 ⟨t.lf,G,P,0,λz q A C m Y=>Mi h _ _ _ _,.refl g 0,o.1,o.2.1,λh=>h,bM _,bM _,λv Y=>by rw [o.2.2 v];exact (hV _).symm,λv i Y e=>aF ((o.2.2 v).symm.trans e)⟩
end
section
variable {G G':GS} {P:List Tr} {t a b c:Tree} {v:Int->Int} {A:Int} {n k:Nat} {w:Bool}
theorem Jv {p q:Int} (hk:k<2):(aAs k p q).isSome= !(q==0)/\∀i,aAs k p q=some i->i=bif k==0 then p.tdiv q else p.tmod q:=by
 rcases k with _ | _ | k
 ·show (bif q==0 then none else some (p.tdiv q)).isSome=_/\∀i,(bif q==0 then none else some (p.tdiv q))=some i->i=p.tdiv q
  cases q==0
  ·exact ⟨rfl,λi e=>(aF e).symm⟩
  ·exact ⟨rfl,nofun⟩
 ·show (bif q==0 then none else some (p.tmod q)).isSome=_/\∀i,(bif q==0 then none else some (p.tmod q))=some i->i=p.tmod q
  cases q==0
  ·exact ⟨rfl,λi e=>(aF e).symm⟩
  ·exact ⟨rfl,nofun⟩
 ·exact absurd hk (fG.2 (fN 2 k))
theorem Qv {j:Nat} (R:nU G (j+10*(n+1))):nU G (j+10+10*n):=by
 rwa [vP,dQ (10*n),<-bL] at R
theorem XT (hk:k<2) (hn:n<=10) (hA:A<=5) (ha:xS (bif w then 190 else 30) a A n) (hb:Lf b):xS (bif w then 200 else 185) (.op k a b) (A+2) (n+1):=λG P j g x ex hP R=>by
 obtain ⟨r,G1,P1,d,h⟩:=ha G P (j+10) g x ex hP (Qv R)
 have e1:=h.step.ext
 have x1:=x.mono e1.toPre
 have ob:=Vj hb x1
 have hP1:P1.length<=1000:=aB h.len (aB (iO hP (fK 3 hn)) (by decide))
 have ex1:∃v,iK G1 v:=ex.elim λv s=>(e1.ex v s).imp λv' s'=>s'.1
 obtain ⟨r2,G2,P2,q⟩:=aFz (w:=k==0) h.step.good hP1 (h.step.room (j+10) 0 (Qv R) |>.le (bE (by decide) j)) ex1 h.ok ob.1 h.ns ob.2.1 (aD hA (by decide)) (by decide)
 have s1 {v} (s:iK G2 v):=q.step.ext.toPre.sol s
 have vl (v:Int->Int):(Tree.op k a b).val (v 0) (v 1)=(a.val (v 0) (v 1)).bind λp=>aAs k p (b.lf.sm.at v):=by show My _ _=_;rw [ob.2.2 v];rfl
 refine ⟨r2,G2,P2,d,λz p A C m hO=> ?_,(h.step.trans q.step).le (bE (by decide) _),⟨q.ok.nd,q.ok.mem,aD q.ok.Ib (fM (by decide) A)⟩,q.ns,λhp=>q.tr (h.tr hp),aB q.nb (bK h.nb),aB q.len (cW h.len 3),λv s=> ?_,λv i s e=> ?_⟩
 ·have k1:=h.run z p A C m hO
  have k2:=Mi hb ⟨z,.ref p⟩ G1 (A++(p,.list (P1.map Tr.enc))::C) (m+d)
  have k3:=q.run z p A C (m+d) (hO.up d)
  rcases k with _ | _ | k
  ·cases w<;>exact Run.same sR [eC k1,eC k2,eC k3] (by kernel_rfl)
  ·cases w<;>exact Run.same sR [eC k1,eC k2,eC k3] (by kernel_rfl)
  ·exact absurd hk (fG.2 (fN 2 k))
 ·rw [q.nt v s,h.nt v (s1 s),vl v,Ea]
  refine congrArg (_&& ·) ?_
  cases a.val (v 0) (v 1) with
  | none=>rfl
  | some p=>exact (Jv hk).1.symm
 ·rw [vl v] at e
  cases ea:a.val (v 0) (v 1) with
  | none=>rw [ea] at e;exact nomatch e
  | some p=>
   rw [ea] at e
   have n:(!(b.lf.sm.at v==0))=true:=by rw [<-(Jv (p:=p) hk).1,show aAs k p (b.lf.sm.at v)=some i from e];rfl
   rw [q.eq v s n,h.eq v p (s1 s) ea,(Jv hk).2 i e]
theorem KT (hA:A<=5) (ha:xS (bif w then 190 else 30) a A n) (hb:Lf b):xS (bif w then 200 else 185) (.op 2 a b) (A+2) (n+1):=λG P j g x ex hP R=>by
 obtain ⟨r,G1,P1,d,h⟩:=ha G P (j+10) g x ex hP (Qv R)
 have e1:=h.step.ext
 have ob:=Vj hb (x.mono e1.toPre)
 obtain ⟨r2,q⟩:=vY (k:=1) h.ok ob.1 (.inl rfl) (aD (bQ hA _) (by decide))
 have vl (v:Int->Int):(Tree.op 2 a b).val (v 0) (v 1)=(a.val (v 0) (v 1)).bind λp=>some (p+b.lf.sm.at v):=by show My _ _=_;rw [ob.2.2 v];rfl
 refine ⟨r2,G1,P1,d+1,λz p A C m hO=> ?_,h.step.le (fK 10 (bJ n)),q.ok,q.ns,h.tr,gK h.nb,aB h.len (aS _ 3),λv s=> ?_,λv i s e=> ?_⟩
 ·have k1:=h.run z p A C m hO
  have k2:=Mi hb ⟨z,.ref p⟩ G1 (A++(p,.list (P1.map Tr.enc))::C) (m+d)
  have k3:=q.run (aNd (K:=⟨z,.ref p⟩) (G:=G1) ((hO.up d).ok (.list (P1.map Tr.enc))))
  cases w<;>exact Run.same sR [eC k1,eC k2,eC k3] (by kernel_rfl)
 ·rw [h.nt v s,vl v];cases a.val (v 0) (v 1)<;>rfl
 ·rw [vl v] at e
  cases ea:a.val (v 0) (v 1) with
  | none=>rw [ea] at e;exact nomatch e
  | some p=>rw [ea] at e;rw [q.eq v,h.eq v p s ea,iE];exact aF e
theorem KS (hn:n<=10) (hA:A<=5) (hA1:1<=A) (ha:xS (bif w then 190 else 30) a A n) (hb:Lf b) (hc:Lf c):xS (bif w then 200 else 185) (.pick a b c) (A+2) (n+1):=λG P j g x ex hP R=>by
 obtain ⟨r,G1,P1,d,h⟩:=ha G P (j+10) g x ex hP (Qv R)
 have e1:=h.step.ext
 have x1:=x.mono e1.toPre
 have ob:=Vj hb x1
 have oc:=Vj hc x1
 have hP1:P1.length<=900:=aB h.len (aB (iO hP (fK 3 hn)) (by decide))
 obtain ⟨r2,G2,P2,d2,q⟩:=EQ h.step.good hP1 (h.step.room (j+10) 0 (Qv R)) h.ok ob.1 oc.1 ob.2.1 oc.2.1 (aD hA (by decide)) (by decide) (by decide)
 have s1 {v} (s:iK G2 v):=q.step.ext.toPre.sol s
 have vl (v:Int->Int):(Tree.pick a b c).val (v 0) (v 1)=(a.val (v 0) (v 1)).bind λp=>bif decide (1<=p)&&decide (p<=2) then some (bif p==1 then b.lf.sm.at v else c.lf.sm.at v) else none:=by show My _ _=_;rw [ob.2.2 v,oc.2.2 v];rfl
 refine ⟨r2,G2,P2,d+d2,λz p A C m hO=> ?_,h.step.trans q.step,⟨q.ok.nd,q.ok.mem,aD q.ok.Ib (bQ (c:=2) hA1|>λh=>h)⟩,q.ns,λhp=>q.tr (h.tr hp),aB q.nb (bK h.nb),aB q.len (cW h.len 3),λv s=> ?_,λv i s e=> ?_⟩
 ·have k1:=h.run z p A C m hO
  have k2:=Mi hb ⟨z,.ref p⟩ G1 (A++(p,.list (P1.map Tr.enc))::C) (m+d)
  have k2':=Mi hc ⟨z,.ref p⟩ G1 (A++(p,.list (P1.map Tr.enc))::C) (m+d)
  have k3:=q.run z p A C (m+d) (hO.up d)
  rw [bL] at k3
  cases w<;>exact Run.same sR [eC k1,eC k2,eC k2',eC k3] (by kernel_rfl)
 ·rw [q.nt v s,h.nt v (s1 s),vl v,Ea]
  refine congrArg (_&& ·) ?_
  cases ea:a.val (v 0) (v 1) with
  | none=>rfl
  | some p=>
   rw [h.eq v p (s1 s) ea]
   show (decide (1<=p)&&decide (p<=2))=(bif decide (1<=p)&&decide (p<=2) then some _ else none).isSome
   cases decide (1<=p)&&decide (p<=2)<;>rfl
 ·rw [vl v] at e
  cases ea:a.val (v 0) (v 1) with
  | none=>rw [ea] at e;exact nomatch e
  | some p=>
   rw [ea] at e
   have e:(bif decide (1<=p)&&decide (p<=2) then some (bif p==1 then b.lf.sm.at v else c.lf.sm.at v) else none)=some i:=e
   have ap:=h.eq v p (s1 s) ea
   refine tf (decide (1<=p)&&decide (p<=2)) (λf=> ?_) λf=>by rw [f] at e;exact nomatch e
   rw [f] at e
   rw [q.eq v s (by rw [ap];exact f),ap]
   exact aF e
end
noncomputable def Tz (o:Option Int):aE:=match o with
 | none=> .list []
 | some i=> .list [.int i]
structure Zh (L:Nat) (t:Tree) (A:Nat) (x y:Int) (o:Option Int):Prop where
 run:gS L .cV [.d t.enc,iv x,iv y] (.d (Tz o))
 le:∀i,o=some i->i.natAbs<=A
noncomputable def Ms (L:Nat) (t:Tree) (A:Nat) (x y:Int):Prop:=Zh L t A x y (t.val x y)
section
variable {t a b c:Tree} {x y p q r:Int} {n k A:Nat} {w:Bool} {st:St}
theorem Pb (h:Lf t):gS 40 .cV [.d t.enc,iv x,iv y] (.d (Tz (t.val x y))):=by
 cases h<;>exact gS.of (λst=>[]) λst=>by kernel_rfl
theorem Ru (h:Lf t) (hx:x.natAbs<=2) (hy:y.natAbs<=2):∃q,t.val x y=some q/\q.natAbs<=2:=by
 cases h with
 | x=>exact ⟨x,rfl,hx⟩
 | y=>exact ⟨y,rfl,hy⟩
 | @is i h=>exact ⟨i,rfl,cZ.1 (by rw [<-gI];exact h)⟩
theorem mx (n:Nat) (h:n<6) (st:St):builtin .Oi [.d (.list (((gH 6).filter λk=>decide (k<=n)).map λk=> .int (0+((k:Nat):Int))))] st=some (iv n,st):=by
 rcases n with _ | _ | _ | _ | _ | _ | n
 ·rfl
 ·rfl
 ·rfl
 ·rfl
 ·rfl
 ·rfl
 ·exact absurd h (fG.2 (fN 6 n))
noncomputable abbrev aQn (t:aE) (x y p q:Int) (o:V):List (Nm×V):=[(.nW,.d t),(.kN,iv x),(.tE,iv y),(.gU,.d (.list [.list [.int p],.list [.int q]])),(.eO,.d (.list [.int p,.int q])),(.yL,o)]
theorem RS (t:aE) (hq:q≠0) (st:St):∀j,12<=j->kL (ev j).E (aQn t x y p q .un) (.v .Zi) (.n .Zi) [.cmp (.bin .mul (.v .Zi) (.blt .abs [.sub (.v .eO) (.int 1)])) [(.le,.blt .abs [.sub (.v .eO) (.int 0)])]] ((gH 6).map λ(k:Nat)=> .int (0+(k:Int))) st=some (((gH 6).filter λk=>decide (k<=p.natAbs / q.natAbs)).map λk=> .int (0+((k:Nat):Int)),st):=
 Gz (c:=λk:Nat=>decide (k<=p.natAbs / q.natAbs)) (gH 6) λk hk=>⟨_,rfl,λj hj=>⟨kG [eP 2 (vD (a:=0+(k:Int)) (b:=ab q) (st:=st) (by
  have:small (0+(k:Int))=true:=by rw [fD];exact decide_eq_true (lS (oV.1 hk) (show 6<2^60 by decide))
  rw [this];rfl)),eQ st (decide_eq_decide.2 (by rw [fD,gI,gI,<-Oc,cZ,Nat.le_div_iff_mul_le (rV.2 hq)]):decide ((0+(k:Int))*ab q<=ab p)=decide (k<=p.natAbs / q.natAbs))] (by kernel_rfl) j hj,kG [] (by kernel_rfl) j hj⟩⟩
theorem OT (p q:Int):p.tdiv q=bif decide (p*q>0) then ((p.natAbs / q.natAbs:Nat):Int) else 0 - ((p.natAbs / q.natAbs:Nat):Int):=by
 have d:(ab p).fdiv (ab q)=((p.natAbs / q.natAbs:Nat):Int):=by rw [gI,gI,oY _ (dL _)];rfl
 rw [<-DT,aAr,d]
 refine tf (decide (p*q>0)) (λe=> ?_) λe=> ?_
 ·have e':=of_decide_eq_true e
  have s:(decide (p<0)==decide (q<0))=true:=by
   rw [beq_iff_eq]
   rcases Jh p 0 with h | h | h
   ·rw [decide_eq_true h,decide_eq_true (iA.1 λg=>iA.2 e' (Int.mul_nonpos_of_nonpos_of_nonneg (dA h) g))]
   ·rw [h,Je] at e';exact absurd e' (by decide)
   ·rw [decide_eq_false (dD.2 (dA h)),decide_eq_false (dD.2 (dA (Int.pos_of_mul_pos_right e' h)))]
  rw [s,e];rfl
 ·rw [e]
  refine tf (decide (p<0)==decide (q<0)) (λs=> ?_) λs=>by rw [s];exact (Bf _).symm
  have z:p.natAbs / q.natAbs=0:=by
   have e':=dD.1 (of_decide_eq_false e)
   have s:=eq_of_beq s
   by_cases h:p<0
   ·have hq:q<0:=of_decide_eq_true (by rw [<-s];exact decide_eq_true h)
    exact absurd (Int.mul_pos_of_neg_of_neg h hq) (dD.2 e')
   ·have hq:¬q<0:=of_decide_eq_false (by rw [<-s];exact decide_eq_false h)
    rcases cG (dD.1 h) with hp | hp
    ·rcases cG (dD.1 hq) with hq | hq
     ·exact absurd (Int.mul_pos hp hq) (dD.2 e')
     ·rw [<-hq];exact Nat.div_zero _
    ·rw [<-hp];exact Nat.zero_div _
  rw [s,z];rfl
theorem YQ (ha:gS (bif w then 70 else 40) .cV [.d a.enc,iv x,iv y] (.d (.list []))) (hb:gS 40 .cV [.d b.enc,iv x,iv y] (.d (.list [.int q]))) (k:Nat):gS (bif w then 90 else 70) .cV [.d (Tree.op k a b).enc,iv x,iv y] (.d (.list [])):=by
 rcases k with _ | _ | k<;>cases w<;>exact gS.of (λst=>[eC (ha st),eC (hb st)]) λst=>by kernel_rfl
theorem LK (ha:gS (bif w then 70 else 40) .cV [.d a.enc,iv x,iv y] (.d (.list [.int p]))) (hb:gS 40 .cV [.d b.enc,iv x,iv y] (.d (.list [.int q]))):gS (bif w then 90 else 70) .cV [.d (Tree.op 2 a b).enc,iv x,iv y] (.d (.list [.int (p+q)])):=by
 cases w<;>exact gS.of (λst=>[eC (ha st),eC (hb st)]) λst=>by kernel_rfl
theorem YR (hk:k<2) (ha:gS (bif w then 70 else 40) .cV [.d a.enc,iv x,iv y] (.d (.list [.int p]))) (hb:gS 40 .cV [.d b.enc,iv x,iv y] (.d (.list [.int q]))) (hp:p.natAbs<6) (hq:small q=true):gS (bif w then 90 else 70) .cV [.d (Tree.op k a b).enc,iv x,iv y] (.d (Tz (aAs k p q))):=by
 have pq (st:St):=vD (a:=p) (b:=q) (st:=st) (by rw [hq];exact vT _)
 refine tf (q==0) (λe=> ?_) λe=> ?_
 ·have f:decide (q=0)=true:=e
  rcases k with _ | _ | k
  ·show gS _ _ _ (.d (Tz (bif q==0 then none else some (p.tdiv q))))
   rw [e]
   cases w<;>exact gS.of (λst=>[eC (ha st),eC (hb st),eX 3,eX 3,eX 3,eQ st f]) λst=>by kernel_rfl
  ·show gS _ _ _ (.d (Tz (bif q==0 then none else some (p.tmod q))))
   rw [e]
   cases w<;>exact gS.of (λst=>[eC (ha st),eC (hb st),eX 3,eX 3,eX 3,eQ st f]) λst=>by kernel_rfl
  ·exact absurd hk (fG.2 (fN 2 k))
 ·have f:decide (q=0)=false:=e
  have h (t:aE) (st:St):=RS (p:=p) t (x:=x) (y:=y) (of_decide_eq_false f) st
  have m:=mx (p.natAbs / q.natAbs) (aX (uU _ _) hp)
  have o:=OT p q
  have qo (o:Int) (st:St):=vD (a:=o) (b:=q) (st:=st) (by rw [hq];exact vT _)
  rcases k with _ | _ | k
  ·show gS _ _ _ (.d (Tz (bif q==0 then none else some (p.tdiv q))))
   rw [e,o]
   refine tf (decide (p*q>0)) (λg=> ?_) λg=> ?_<;>rw [g]<;>cases w<;>exact gS.of (λst=>[eC (ha st),eC (hb st),eX 3,eX 3,eX 3,eQ st f,eK (h (Tree.op 0 a b).enc st),eP 7 (m st),eP 2 (pq st),eQ st g]) λst=>by kernel_rfl
  ·show gS _ _ _ (.d (Tz (bif q==0 then none else some (p.tmod q))))
   have u:p.tmod q=p - q*p.tdiv q:=by rw [Bg]
   rw [e,u,Int.mul_comm,o]
   refine tf (decide (p*q>0)) (λg=> ?_) λg=> ?_
   ·rw [g];cases w<;>exact gS.of (λst=>[eC (ha st),eC (hb st),eX 3,eX 3,eX 3,eQ st f,eK (h (Tree.op 1 a b).enc st),eP 7 (m st),eP 2 (pq st),eQ st g,eP 2 (qo ((p.natAbs / q.natAbs:Nat):Int) st)]) λst=>by kernel_rfl
   ·rw [g];cases w<;>exact gS.of (λst=>[eC (ha st),eC (hb st),eX 3,eX 3,eX 3,eQ st f,eK (h (Tree.op 1 a b).enc st),eP 7 (m st),eP 2 (pq st),eQ st g,eX 2,eP 2 (qo (0 - ((p.natAbs / q.natAbs:Nat):Int)) st)]) λst=>by kernel_rfl
  ·exact absurd hk (fG.2 (fN 2 k))
end
section
variable {t a b c:Tree} {x y p q r:Int} {n k A:Nat} {w:Bool} {st:St}
theorem AY {a b:Int} (h:a<=b) (n:¬a=b):a<b:=(cG h).resolve_right n
theorem LJ (ha:gS (bif w then 70 else 40) .cV [.d a.enc,iv x,iv y] (.d (.list []))) (hb:gS 40 .cV [.d b.enc,iv x,iv y] (.d (.list [.int q]))) (hc:gS 40 .cV [.d c.enc,iv x,iv y] (.d (.list [.int r]))):gS (bif w then 90 else 70) .cV [.d (Tree.pick a b c).enc,iv x,iv y] (.d (.list [])):=by
 cases w<;>exact gS.of (λst=>[eC (ha st),eC (hb st),eC (hc st)]) λst=>by kernel_rfl
theorem LI (ha:gS (bif w then 70 else 40) .cV [.d a.enc,iv x,iv y] (.d (.list [.int p]))) (hb:gS 40 .cV [.d b.enc,iv x,iv y] (.d (.list [.int q]))) (hc:gS 40 .cV [.d c.enc,iv x,iv y] (.d (.list [.int r]))):gS (bif w then 90 else 70) .cV [.d (Tree.pick a b c).enc,iv x,iv y] (.d (Tz (bif decide (1<=p)&&decide (p<=2) then some (bif p==1 then q else r) else none))):=by
 by_cases h1:1=p
 ·cases h1
  cases w<;>exact gS.of (λst=>[eC (ha st),eC (hb st),eC (hc st)]) λst=>by kernel_rfl
 ·by_cases h2:2=p
  ·cases h2
   cases w<;>exact gS.of (λst=>[eC (ha st),eC (hb st),eC (hc st)]) λst=>by kernel_rfl
  ·have e:(decide (1=p)||(decide (2=p)||false))=false:=by rw [decide_eq_false h1,decide_eq_false h2];rfl
   have f:(decide (1<=p)&&decide (p<=2))=false:=by
    rcases Int.lt_or_le p 1 with h | h
    ·rw [decide_eq_false (iA.2 h)];rfl
    ·rw [decide_eq_false (show ¬p<=2 from iA.2 (AY (AY h h1) h2)),mS]
   rw [f]
   cases w<;>exact gS.of (λst=>[eC (ha st),eC (hb st),eC (hc st),eX 3,eX 3,eX 3,eQ st e]) λst=>by kernel_rfl
theorem aKc {i:Int} (hp:p.natAbs<=A) (hq:q.natAbs<=2) (e:aAs k p q=some i):i.natAbs<=A+2:=by
 have l {m:Nat} (h:m<=p.natAbs):m<=A+2:=aB h (aB hp (aS A 2))
 rcases k with _ | _ | k
 ·have e:=(Jv (k:=0) (by decide)).2 i e
  rw [e]
  exact l (Ck p q▸uU _ _)
 ·have e:=(Jv (k:=1) (by decide)).2 i e
  rw [e]
  exact l (uX p q▸Py _ _)
 ·rw [<-aF e];exact aB (Jg p q) (iO hp hq)
theorem VV {i:Int} {u v:Bool} (hq:q.natAbs<=2) (hr:r.natAbs<=2) (e:(bif u then some (bif v then q else r) else none)=some i):i.natAbs<=2:=by
 cases u
 ·exact nomatch e
 ·cases v<;>(rw [<-aF e];assumption)
theorem YP (hx:x.natAbs<=2) (hy:y.natAbs<=2) (hA:A<=5) (ha:Ms (bif w then 70 else 40) a A x y) (hb:Lf b) (k:Nat) (hk:k<=2):Ms (bif w then 90 else 70) (.op k a b) (A+2) x y:=by
 obtain ⟨q,eb,lb⟩:=Ru hb hx hy
 have cb:=Pb (x:=x) (y:=y) hb
 have ca:=ha.run
 rw [eb] at cb
 show Zh _ _ _ _ _ ((a.val x y).bind λp=>(b.val x y).bind λq=>aAs k p q)
 cases ea:a.val x y with
 | none=>rw [ea] at ca;exact ⟨YQ ca cb k,nofun⟩
 | some p=>
  rw [ea] at ca
  have lp:=ha.le p ea
  rw [eb]
  exact ⟨(jF hk).elim (λh=>YR h ca cb (oE (aB lp hA)) (zI.small (by unfold zI;rw [gI];exact cZ.2 (aB lb (by decide))))) λh=>by rw [h];exact LK ca cb,λi e=>aKc lp lb e⟩
theorem YO (hx:x.natAbs<=2) (hy:y.natAbs<=2) (ha:Ms (bif w then 70 else 40) a A x y) (hb:Lf b) (hc:Lf c):Ms (bif w then 90 else 70) (.pick a b c) (A+2) x y:=by
 obtain ⟨q,eb,lb⟩:=Ru hb hx hy
 obtain ⟨r,ec,lc⟩:=Ru hc hx hy
 have cb:=Pb (x:=x) (y:=y) hb
 have cc:=Pb (x:=x) (y:=y) hc
 have ca:=ha.run
 rw [eb] at cb
 rw [ec] at cc
 show Zh _ _ _ _ _ ((a.val x y).bind λp=>(b.val x y).bind λq=>(c.val x y).bind λr=>bif decide (1<=p)&&decide (p<=2) then some (bif p==1 then q else r) else none)
 rw [eb,ec]
 cases ea:a.val x y with
 | none=>rw [ea] at ca;exact ⟨LJ ca cb cc,nofun⟩
 | some p=>
  rw [ea] at ca
  refine ⟨LI ca cb cc,λi e=>aB (VV lb lc e) (fN 2 A)⟩
end
structure MI (h c:Nat) (t:Tree) (A n:Nat):Prop where
 hand:xS h t A n
 LL:∀ {x y:Int},x.natAbs<=2->y.natAbs<=2->Ms c t A x y
section
variable {z k:Int} {p:V} {G:GS} {T:List (Nat×O)} {m:Nat} {P:Prop} {t a b c:Tree} {A n h h' l l':Nat} {w:Bool}
theorem xS.up {M:Int} (i:h<=h') (o:xS h t M n):xS h' t M n:=λG P j g x ex hP R=>
 (o G P j g x ex hP R).elim λr q=>q.elim λG' q=>q.elim λP' q=>q.elim λd q=>⟨r,G',P',d,λz q1 A C m hO k hk=>q.run z q1 A C m hO k (aB i hk),q.step,q.ok,q.ns,q.tr,q.nb,q.len,q.nt,q.eq⟩
theorem MI.up (i:h<=h') (j:l<=l') (o:MI h l t A n):MI h' l' t A n:=⟨o.hand.up i,λhx hy=>⟨λst k hk=>(o.LL hx hy).run st k (aB j hk),(o.LL hx hy).le⟩⟩
theorem EE (o:Lf t):MI 30 40 t 2 0:=⟨WY o,λ{x y} hx hy=>⟨Pb o,λi e=>(Ru o hx hy).elim λq r=>by rw [<-aF (r.1.symm.trans e)];exact r.2⟩⟩
theorem aCl (hA:A<=5) (hn:n<=10) (ha:MI (bif w then 190 else 30) (bif w then 70 else 40) a A n) (hb:Lf b) (k:Nat) (hk:k<=2):MI (bif w then 200 else 185) (bif w then 90 else 70) (.op k a b) (A+2) (n+1):=
 have hA':(A:Int)<=5:=cZ.2 hA
 ⟨(jF hk).elim (λh=>XT h hn hA' ha.hand hb) λh=>by rw [h];exact KT hA' ha.hand hb,λhx hy=>YP hx hy hA (ha.LL hx hy) hb k hk⟩
theorem NB (hA:A<=5) (hn:n<=10) (hA1:1<=A) (ha:MI (bif w then 190 else 30) (bif w then 70 else 40) a A n) (hb:Lf b) (hc:Lf c):MI (bif w then 200 else 185) (bif w then 90 else 70) (.pick a b c) (A+2) (n+1):=⟨KS hn (cZ.2 hA) (cZ.2 hA1) ha.hand hb hc,λhx hy=>YO hx hy (ha.LL hx hy) hb hc⟩
theorem uG (hk:(decide (k≠0)&&small k)=true) (z:Int) (p:V) (G:GS) (T:List (Nat×O)) (m:Nat):Run 14 none .jJ [.ref 0,iv k] (cR ⟨z,p⟩ G T m) (iv (z.fmod k)) (cR ⟨z.fdiv k,p⟩ G T m):=Run.same rfl [eP 2 (Xo (a:=z) (b:=k) (st:=cR ⟨z,p⟩ G T m) (aM.1 hk).1),eP 2 (Fw (a:=z) (b:=k) (st:=cR ⟨z,p⟩ G T m) hk)] (by kernel_rfl)
theorem Fv (z:Int) {k:Int} (hk:0<k):0<=z.fmod k/\z.fmod k<k:=⟨Int.fmod_nonneg_of_pos z hk,Int.fmod_lt_of_pos z hk⟩
structure aMq (z:Int) (p:V) (t:Tree) (z':Int):Prop where
 run:∀G T m,Run 40 none .nO [.ref 0] (cR ⟨z,p⟩ G T m) (.d t.enc) (cR ⟨z',p⟩ G T m)
 lf:Lf t
theorem Fu (z:Int) (p:V):∃t z',aMq z p t z':=by
 have w:=Fv z (k:=3) (by decide)
 have r (G T m):=uG (k:=3) rfl z p G T m
 rcases cG w.1 with h | h
 ·rcases cG (show 1<=z.fmod 3 from h) with h2 | h2
  ·have e:z.fmod 3=2:=dU (cM w.2) h2
   have q:=Fv (z.fdiv 3) (k:=4) (by decide)
   rw [e] at r
   exact ⟨.is ((z.fdiv 3).fmod 4 - 1),(z.fdiv 3).fdiv 4,λG T m=>Run.same rfl [eC (r G T m),eC (uG (k:=4) rfl (z.fdiv 3) p G T m)] (by kernel_rfl),.is (kM.2 ⟨aD (by decide) (tW q.1 1),tW (b:=3) (cM q.2) 1⟩)⟩
  ·rw [<-h2] at r
   exact ⟨.y,z.fdiv 3,λG T m=>Run.same rfl [eC (r G T m)] (by kernel_rfl),.y⟩
 ·rw [<-h] at r
  exact ⟨.x,z.fdiv 3,λG T m=>Run.same rfl [eC (r G T m)] (by kernel_rfl),.x⟩
structure JE (w:Bool) (z:Int) (p:V) (t:Tree) (z':Int) (M:Nat) (k:Nat):Prop where
 run:∀G T m,Run (bif w then 90 else 65) none .qS [.ref 0,bv w] (cR ⟨z,p⟩ G T m) (.d t.enc) (cR ⟨z',p⟩ G T m)
 ok:MI (bif w then 200 else 185) (bif w then 90 else 70) t M k
noncomputable abbrev UR:Ex:= .gR (.and [.v .Fm,.cmp (.call .jJ [.v .iY,.int 2]) [(.eq,.int 0)]]) (.call .qS [.v .iY,.bool false]) (.call .nO [.v .iY])
noncomputable abbrev aQd (w:Bool) (r:Int):List (Nm×V):=[(.iY,.ref 0),(.Fm,bv w),(.pC,iv r),(.Ka,.un),(.Ej,.un)]
theorem EA {r n:Int} (h:r<n+1):r=n\/r<n:=(cG (cM h)).symm
theorem six {r:Int} (h:0<=r/\r<6):((r=0\/r=1)\/r=2\/r=3)\/r=4\/r=5:=(EA (n:=5) h.2).elim (λe=> .inr (.inr e)) λh'=>(EA (n:=4) h').elim (λe=> .inr (.inl e)) λh'=>(EA (n:=3) h').elim (λe=> .inl (.inr (.inr e))) λh'=>(EA (n:=2) h').elim (λe=> .inl (.inr (.inl e))) λh'=>(EA (n:=1) h').elim (λe=> .inl (.inl (.inr e))) λh'=> .inl (.inl (.inl (dU (cM h') h.1)))
theorem Qf {z1:Int} (hA:A<=5) (hA1:1<=A) (hn:n<=10) (ha:MI (bif w then 190 else 30) (bif w then 70 else 40) a A n) (hf:∀r G T m,∀k,(bif w then 75 else 50)<=k->(ev k).E (aQd w r) UR (cR ⟨z.fdiv 6,p⟩ G T m)=some (.d a.enc,cR ⟨z1,p⟩ G T m)):∃t z',JE w z p t z' (A+2) (n+1):=by
 obtain ⟨b,z2,l2⟩:=Fu z1 p
 obtain ⟨c,z3,l3⟩:=Fu z2 p
 have q:=Fv z (k:=6) (by decide)
 have t6 (G T m):=uG (k:=6) rfl z p G T m
 have two {r:Int} {k:Nat} (k2:k<=2) (e:z.fmod 6=r) (hr:(r=0\/r=1)/\k=0\/(r=2\/r=3)/\k=1\/r=5/\k=2):∃t z',JE w z p t z' (A+2) (n+1):=⟨.op k a b,z2,λG T m=>by
  have h6:=t6 G T m
  have h2:=l2.run G T m
  have h1:=hf (z.fmod 6) G T m
  rw [e] at h6 h1
  rcases hr with ⟨rfl | rfl,rfl⟩ | ⟨rfl | rfl,rfl⟩ | ⟨rfl,rfl⟩<;>cases w<;>exact Run.same rfl [eC h6,eE h1,eC h2] (by kernel_rfl),aCl hA hn ha l2.lf k k2⟩
 rcases six q with (h | h) | h | h
 ·exact h.elim (λe=>two (by decide) e (.inl ⟨.inl rfl,rfl⟩)) λe=>two (by decide) e (.inl ⟨.inr rfl,rfl⟩)
 ·exact h.elim (λe=>two (by decide) e (.inr (.inl ⟨.inl rfl,rfl⟩))) λe=>two (by decide) e (.inr (.inl ⟨.inr rfl,rfl⟩))
 ·refine ⟨.pick a b c,z3,λG T m=> ?_,NB hA hn hA1 ha l2.lf l3.lf⟩
  have h6:=t6 G T m
  have h1:=hf (z.fmod 6) G T m
  rw [h] at h6 h1
  cases w<;>exact Run.same rfl [eC h6,eE h1,eC (l2.run G T m),eC (l3.run G T m)] (by kernel_rfl)
 ·exact two (by decide) h (.inr (.inr ⟨rfl,rfl⟩))
theorem HI (z:Int) (p:V):∃t z',JE false z p t z' 4 1:=by
 obtain ⟨a,z1,l⟩:=Fu (z.fdiv 6) p
 exact Qf (w:=false) (z1:=z1) (A:=2) (n:=0) (by decide) (by decide) (by decide) (EE l.lf) λr G T m=>kG [eC (l.run G T m)] (by kernel_rfl)
theorem YL (z:Int) (p:V):∃t z' A n,JE true z p t z' A n/\A<=6/\n<=2:=by
 have t2 (G T m):=uG (k:=2) rfl (z.fdiv 6) p G T m
 have q:=Fv (z.fdiv 6) (k:=2) (by decide)
 rcases EA (n:=1) q.2 with e | e
 ·rw [e] at t2
  obtain ⟨a,z1,l⟩:=Fu ((z.fdiv 6).fdiv 2) p
  exact (Qf (w:=true) (z1:=z1) (A:=2) (n:=0) (by decide) (by decide) (by decide) ((EE l.lf).up (by decide) (by decide)) λr G T m=>kG [eC (t2 G T m),eC (l.run G T m)] (by kernel_rfl)).elim λt h=>h.elim λz' h=>⟨t,z',4,1,h,by decide,by decide⟩
 ·have e:(z.fdiv 6).fmod 2=0:=dU (cM e) q.1
  rw [e] at t2
  obtain ⟨a,z1,l⟩:=HI ((z.fdiv 6).fdiv 2) p
  exact (Qf (w:=true) (z1:=z1) (A:=4) (n:=1) (by decide) (by decide) (by decide) (l.ok.up (by decide) (by decide)) λr G T m=>kG [eC (t2 G T m),eC (l.run G T m)] (by kernel_rfl)).elim λt h=>h.elim λz' h=>⟨t,z',6,2,h,by decide,by decide⟩
end
noncomputable def aJf (s:Sg) (o o':Option Int):Bool:=match o,o' with
 | some a,some c=>s.rel a c
 | _,_=>false
noncomputable def Nd (s:Sg) (t u:Tree):aE:= .tuple [s.enc,t.enc,u.enc]
section
variable {t u:Tree} {x y q:Int} {o:Option Int} {s:Sg}
theorem aLd (ha:gS 90 .cV [.d t.enc,iv x,iv y] (.d (Tz o))) (hb:gS 40 .cV [.d u.enc,iv x,iv y] (.d (Tz (some q)))):gS 95 .mB [.d (Nd s t u),iv x,iv y] (bv (aJf s o (some q))):=by
 cases o with
 | none=>cases s<;>exact gS.of (λst=>[eC (ha st),eC (hb st)]) λst=>by kernel_rfl
 | some p=>cases s<;>exact gS.of (λst=>[eC (ha st),eC (hb st)]) λst=>by kernel_rfl
end
structure aPa (n:Nat) (f:Nm) (vs:List V) (G:GS) (t:Tr) (G':GS) (c:Nat) (A:(Int->Int)->Bool):Prop where
 run:∀z T m,Ok T m->∃m',m<=m'/\Run n none f vs (cR ⟨z,.d .none⟩ G T m) (.d t.enc) (cR ⟨z,.d .none⟩ G' T m')
 step:Step X0 G G' c
 ok:nR G' t
 eq:∀v,iK G' v->t.at v=A v
section
variable {G G' G1 G2:GS} {P:List Tr} {t u:Tree} {s:Sg} {z:Int} {m n d d':Nat} {T:List (Nat×O)} {r:Vl} {c f:Tr} {A h l:Nat} {j:Nat}
theorem aGy {r:Nat} {st:St} {xs ys:List aE} (a:At st r (.list xs)) (h:xs.length+ys.length<=bW):binOp .add (.ref r) (.d (.list ys)) st=some (.d (.list (xs++ys)),st):=aY (a:=xs) (aY a.get rfl) (aY (a:=ys) rfl (aY (a:=()) (by show dK _ st=_;rw [decide_eq_true h];rfl) rfl))
theorem aKd (hO:Ok T m):Oo m T [] (m+1):=⟨hO.1,hO.2,cI m,λq h=>absurd h bN⟩
theorem JM (hO:Ok T m) (h1:Run 200 none .nP [mM,.d t.enc] (mX z m T [] G [] (m+1)) (.d r.enc) (mX z m T [] G1 P (m+1+d))) (hu:Lf u) (h2:Me 140 .tH [.d s.enc,.d r.enc,.d u.lf.enc] G1 (.d c.enc) G2 d') (l:P.length<=1000) (h3:Me 90 .jC [.d (.list (P.map Tr.enc++[c.enc]))] G2 (.d f.enc) G' 1):Run 205 none .pH [mM,.d (Nd s t u)] (cR ⟨z,.d .none⟩ G T m) (.d f.enc) (cR ⟨z,.d .none⟩ G' T (m+1+d+d'+1)):=
 have o1:Oo m T [] (m+1):=aKd hO
 have k2:=Mi hu ⟨z,.ref m⟩ G1 (T++(m,.list (P.map Tr.enc))::[]) (m+1+d)
 have k3:=h2.p P z m T [] (m+1+d) (o1.up d)
 have o2:Ok (T++[(m,.list (P.map Tr.enc))]) (m+1+d+d'):=(((hO.push).up d).up d')
 have k4:=h3 ⟨z,.d .none⟩ _ _ o2
 have a:At (cR ⟨z,.d .none⟩ G2 (T++[(m,.list (P.map Tr.enc))]) (m+1+d+d')) m (.list (P.map Tr.enc)):=QA (K:=⟨z,.d .none⟩) (G:=G2) hO
 have k5:=aGy (ys:=[c.enc]) a (by rw [aI];exact aB (bK l) (by decide))
 Run.cut (A:=[(m,.list (P.map Tr.enc))]) (B:=core ⟨z,.d .none⟩ G'++T) rfl [eC h1,eC k2,eC k3,eP 2 k5,eC k4] (by kernel_rfl)
theorem Zp (g:Good X0 G) (x:Xy G) (ex:∃v,iK G v) (ht:MI 200 l t A n) (hA:A<=6) (hn:n<=2) (hu:Lf u) (R:nU G (j+22)):∃f G',aPa 205 .pH [mM,.d (Nd s t u)] G f G' 22 λv=>aJf s (t.val (v 0) (v 1)) (u.val (v 0) (v 1)):=by
 have n20:10*n<=20:=fK 10 hn
 have R0:nU G (j+2+10*n):=R.le (by rw [bL];exact bE (bE n20 2) j)
 obtain ⟨r,G1,P,d,h⟩:=ht.hand G [] (j+2) g x ex (fJ _) R0
 have ou:=Vj hu (x.mono h.step.ext.toPre)
 have R1:nU G1 (j+2):=h.step.room (j+2) 0 R0
 obtain ⟨c,G2,d',q⟩:=BT (s:=s) (j:=j+1) h.step.good R1 h.ok ou.1 h.ns (aD (bQ (cZ.2 hA) _) (by decide))
 have e:(P++[c]).map Tr.enc=P.map Tr.enc++[c.enc]:=cS ..
 have lp:P.length<=6:=aB h.len (by rw [lO,eH];exact fK 3 hn)
 have ok (y:Tr) (m:y∈P++[c]):nR G2 y:=(aV.1 m).elim (λm=>(h.tr (λy m=>absurd m bN) y m).mono q.step.ext.toPre) λm=>by rw [aC.1 m];exact q.ok
 obtain ⟨f,G',y⟩:=Tj q.step.good (q.step.room (j+1) 0 R1) ok (by rw [aN];exact aB (bK lp) (by decide)) (aB (Xh P) (bK (aB h.nb (by rw [show nb []=0 from rfl,eH];exact hn))))
 have k3:=y.run
 unfold nA at k3
 rw [e] at k3
 refine ⟨f,G',λz T m hO=>⟨_,?_,JM hO (h.run z m T [] (m+1) (aKd hO)) hu q.run (aB lp (by decide)) k3⟩,((h.step.trans q.step).trans y.step).le (bK (bK n20)),y.ok,λv s=> ?_⟩
 ·rw [bL,bL,bL];exact aS _ _
 ·have s2:=y.step.ext.toPre.sol s
  rw [y.eq v s,Oa,h.nt v (q.step.ext.toPre.sol s2),ou.2.2 v,show ([c].all (Tr.at v))=_ from hV _,q.eq v s2]
  cases et:t.val (v 0) (v 1) with
  | none=>rfl
  | some i=>rw [h.eq v i (q.step.ext.toPre.sol s2) et];rfl
end
section
variable {t:Told} {xs ys:List Int}
theorem Yt (xs ys:List Int) (h:(xs++ys).length<=100) (st:St):binOp .add (.d (qV xs)) (.d (qV ys)) st=some (.d (qV (xs++ys)),st):=by
 unfold qV;rw [cS]
 exact Pg _ _ st (by rw [aI,aI,<-aN];exact aB h (by decide))
theorem KD (h:t.ok):gS 30 .yM [.d t.enc] (.d (qV t.scope)):=by
 have q:=h.1
 cases t with
 | aAy l=>rcases l with ⟨k,cs,xs,b⟩;cases k<;>exact gS.of (λst=>[]) λst=>by kernel_rfl
 | Ad b l=>rcases l with ⟨k,cs,xs,d⟩;exact gS.of (λst=>[eP 2 (Yt [b] xs q st)]) λst=>by kernel_rfl
 | imp b l=>rcases l with ⟨k,cs,xs,d⟩;exact gS.of (λst=>[eP 2 (Yt [b] xs q st)]) λst=>by kernel_rfl
 | clause u d=>exact gS.of (λst=>[eP 2 (Yt u d q st)]) λst=>by kernel_rfl
 | ao w xs b=>cases w<;>exact gS.of (λst=>[eP 2 (Yt xs [b] q st)]) λst=>by kernel_rfl
 | dm w x y z=>cases w<;>exact gS.of (λst=>[]) λst=>by kernel_rfl
 | _=>exact gS.of (λst=>[]) λst=>by kernel_rfl
end
noncomputable def vl (vs:List Int) (x:Int):Int:=vs.getD x.toNat 0
theorem GM (v:Int->Int):∀xs:List Int,(xs.map v).sum=T v xs
 | []=>rfl
 | x::r=>congrArg (v x+ ·) (GM v r)
theorem GL (v:Int->Int):∀cs xs:List Int,((cs.zip xs).map λp=>p.1*v p.2).sum=dot v cs xs
 | [],[]=>rfl
 | [],_::_=>rfl
 | _::_,[]=>rfl
 | a::cs,x::xs=>congrArg (a*v x+ ·) (GL v cs xs)
section
variable {t:Told} {xs cs vs:List Int} {st:St} {x:Int} {n:Nat}
theorem kR (h:In vs.length x) (st:St):itemOf (.d (.list (vs.map .int))) (iv x) st=some (iv (vl vs x),st):=
 aY (a:=x) rfl (aY (a:=()) (by show dK _ st=_;rw [decide_eq_true h.1];rfl) (aY (a:= .int (vl vs x)) (by
  have l:x.toNat<vs.length:=(vR h.1).2 h.2
  have e:atIdx (vs.map .int) x=some (.int (vl vs x)):=by
   unfold atIdx vl Kg
   rw [aI,if_pos (show 0<=x/\x<(vs.length:Int) from h)]
   show (vs.map _)[x.toNat]? =_
   rw [lU,cD,bZ l];rfl
  rw [e];rfl) rfl))
theorem Qk (l:List Int) (st:St):builtin .sum [.d (.list (l.map .int))] st=some (iv l.sum,st):=aY (a:=l.map .int) rfl (aY (a:=l) (by rw [Pd];rfl) rfl)
noncomputable abbrev aOs (t v:aE) (a b c:V):List (Nm×V):=[(.cK,.d t),(.Bo,.d v),(.pG,a),(.eZ,b),(.El,c),(.nN,.un),(.kN,.un),(.tE,.un),(.HM,.un),(.jW,.un)]
theorem aBa (h:∀x,x∈xs->In vs.length x) (t:aE) (a b c:V) (st:St):∀j,9<=j->kL (ev j).E (aOs t (.list (vs.map .int)) a b c) (.sub (.v .Bo) (.v .kN)) (.n .kN) [] (xs.map .int) st=some ((xs.map (vl vs)).map .int,st):=by
 rw [dM]
 exact Ct (F:= .int) (d:= .int∘vl vs) xs λx m=>⟨_,rfl,kG [eP 4 (kR (h x m) st)] (by kernel_rfl)⟩
theorem aKz (h:∀x,x∈xs->In vs.length x) (t:aE) (a b c:V) (st:St):∀j,9<=j->kL (ev j).E (aOs t (.list (vs.map .int)) a b c) (.bin .sub (.int 1) (.sub (.v .Bo) (.v .kN))) (.n .kN) [] (xs.map .int) st=some ((xs.map λx=>1 - vl vs x).map .int,st):=by
 rw [dM]
 exact Ct (F:= .int) (d:= .int∘λx=>1 - vl vs x) xs λx m=>⟨_,rfl,kG [eP 4 (kR (h x m) st)] (by kernel_rfl)⟩
theorem aLa (h:∀x,x∈xs->In vs.length x/\small (vl vs x)=true) (t:aE) (a b c:V) (st:St):∀j,9<=j->kL (ev j).E (aOs t (.list (vs.map .int)) a b c) (.bin .mul (.v .mI) (.sub (.v .Bo) (.v .kN))) (.t [.n .mI,.n .kN]) [] ((cs.zip xs).map λp=> .tuple [.int p.1,.int p.2]) st=some (((cs.zip xs).map λp=>p.1*vl vs p.2).map .int,st):=by
 rw [dM]
 exact Ct (F:=λp=> .tuple [.int p.1,.int p.2]) (d:= .int∘λp:Int×Int=>p.1*vl vs p.2) (cs.zip xs) λp m=>have q:=h p.2 (Ch m).2;⟨_,rfl,kG [eP 4 (kR q.1 st),eP 2 (vD (a:=p.1) (b:=vl vs p.2) (st:=st) (by rw [q.2];exact vT _))] (by kernel_rfl)⟩
theorem DB (h:cs.length=xs.length) (st:St):aBw (.d (qV cs)) (.d (qV xs)) st=some (((cs.zip xs).map λp=> .tuple [.int p.1,.int p.2],none),st):=by
 have e:(((cs.map mE).zip (xs.map .int)).map λp=>rO [p.1,p.2])=(cs.zip xs).map λp=> .tuple [.int p.1,.int p.2]:=by rw [List.zip_map,dM];rfl
 rw [<-e]
 exact aY (a:=cs.map .int) rfl (aY (a:=xs.map .int) rfl (aY (a:=()) (by rw [aI,aI,h,decide_eq_true (bM _)];rfl) rfl))
end
section
variable {t:Told} {l:Au} {xs cs vs u d:List Int} {st:St} {x y z a b c i:Int} {n:Nat} {w:Bool}
theorem aLc (b:Bool):(b==true)=b:=by cases b<;>rfl
theorem aLe (b:Bool):(b==false)= !b:=by cases b<;>rfl
noncomputable abbrev lv (vs:List Int):V:= .d (.list (vs.map .int))
theorem Ry (hl:l.cs.length=l.xs.length) (h:∀x,x∈l.xs->In vs.length x/\small (vl vs x)=true):gS 40 .dB [.d l.enc,lv vs] (bv (l.kept (vl vs))):=by
 rcases l with ⟨k,cs,xs,b⟩
 have e:(Au.mk k cs xs b).kept (vl vs)=k.rel (((cs.zip xs).map λp=>p.1*vl vs p.2).sum - b):=by rw [GL];rfl
 rw [e]
 have s (st):=Qk ((cs.zip xs).map λp=>p.1*vl vs p.2) st
 have kd (k:Kd) (st):=aLa (cs:=cs) h (Au.enc ⟨k,cs,xs,b⟩) (.d k.s) .un .un st
 cases k with
 | le=>exact gS.of (λst=>[eI (DB hl st),eK (kd .le st),eP 7 (s st)]) λst=>by kernel_rfl
 | ne=>exact gS.of (λst=>[eI (DB hl st),eK (kd .ne st),eP 7 (s st),eX 3,eX 3,eX 3,eQ st (aLe (((cs.zip xs).map λp=>p.1*vl vs p.2).sum - b==0))]) λst=>by kernel_rfl
 | eq=>exact gS.of (λst=>[eI (DB hl st),eK (kd .eq st),eP 7 (s st),eX 3,eX 3,eX 3,eQ st (aLc (((cs.zip xs).map λp=>p.1*vl vs p.2).sum - b==0))]) λst=>by kernel_rfl
theorem KO (h:gS 40 .dB [.d l.enc,lv vs] (bv (l.kept (vl vs)))) (hb:In vs.length b):gS 50 .dB [.d (Told.Ad b l).enc,lv vs] (bv ((Told.Ad b l).kept (vl vs))):=gS.of (λst=>[eC (h st),eX 4,eP 4 (kR hb st)]) λst=>by kernel_rfl
theorem PX (h:gS 40 .dB [.d l.enc,lv vs] (bv (l.kept (vl vs)))) (hb:In vs.length b):gS 50 .dB [.d (Told.imp b l).enc,lv vs] (bv ((Told.imp b l).kept (vl vs))):=by
 refine tf (vl vs b==1) (λe=> ?_) λe=> ?_
 ·show gS _ _ _ (bv (!(vl vs b==1)||l.kept (vl vs)))
  have f:(!(vl vs b==1))=false:=by rw [e];rfl
  rw [f]
  exact gS.of (λst=>[eX 3,eX 3,eX 3,eX 4,eP 4 (kR hb st),eQ st f,eC (h st)]) λst=>by kernel_rfl
 ·show gS _ _ _ (bv (!(vl vs b==1)||l.kept (vl vs)))
  have f:(!(vl vs b==1))=true:=by rw [e];rfl
  rw [f]
  exact gS.of (λst=>[eX 3,eX 3,eX 3,eX 4,eP 4 (kR hb st),eQ st f]) λst=>by kernel_rfl
theorem aEw (xs:List Int) (st:St):builtin .len [.d (qV xs)] st=some (iv xs.length,st):=by
 rw [<-aI (as:=xs) mE];rfl
theorem BB (h:∀x,x∈u++d->In vs.length x):gS 40 .dB [.d (Told.clause u d).enc,lv vs] (bv ((Told.clause u d).kept (vl vs))):=by
 show gS _ _ _ (bv (decide (0<T (vl vs) u+T (λx=>1 - vl vs x) d)))
 rw [<-GM,<-GM]
 exact gS.of (λst=>[eK (aBa (λx m=>h x (aL d m)) (Told.clause u d).enc (.d (.str Nm.Aj.str)) .un .un st),eP 7 (Qk (u.map (vl vs)) st),eK (aKz (λx m=>h x (aQ u m)) (Told.clause u d).enc (.d (.str Nm.Aj.str)) .un .un st),eP 7 (Qk (d.map λx=>1 - vl vs x) st)]) λst=>by kernel_rfl
theorem XH (h:∀x,x∈xs++[b]->In vs.length x):gS 40 .dB [.d (Told.ao w xs b).enc,lv vs] (bv ((Told.ao w xs b).kept (vl vs))):=by
 show gS _ _ _ (bv ((bif w then T (vl vs) xs==xs.length else decide (0<T (vl vs) xs))==(vl vs b==1)))
 have hb:=kR (h b (aQ xs (.head _)))
 have k (t a st):=aBa (λx m=>h x (aL [b] m)) t a .un .un st
 rw [<-GM]
 cases w with
 | true=>exact gS.of (λst=>[eK (k (Told.ao true xs b).enc (.d (.str Nm.Vg.str)) st),eP 7 (Qk (xs.map (vl vs)) st),eX 4,eP 7 (aEw xs st),eX 4,eP 4 (hb st)]) λst=>by kernel_rfl
 | false=>exact gS.of (λst=>[eK (k (Told.ao false xs b).enc (.d (.str Nm.AS.str)) st),eP 7 (Qk (xs.map (vl vs)) st),eX 4,eP 4 (hb st)]) λst=>by kernel_rfl
theorem PV (h:∀x,x∈[a,b,c]->In vs.length x):gS 40 .dB [.d (Told.xor a b c).enc,lv vs] (bv ((Told.xor a b c).kept (vl vs))):=gS.of (λst=>[eX 4,eX 4,eP 4 (kR (h a (.head _)) st),eX 4,eP 4 (kR (h b (.tail _ (.head _))) st),eX 4,eP 4 (kR (h c (.tail _ (.tail _ (.head _)))) st)]) λst=>by kernel_rfl
end
section
variable {t:Told} {xs cs vs:List Int} {st:St} {x y z a b i r p q s:Int} {n:Nat} {w:Bool}
noncomputable def Vw (w:Bool) (hx:∀st,itemOf (lv vs) (iv x) st=some (iv p,st)) (hy:∀st,itemOf (lv vs) (iv y) st=some (iv q,st)) (hz:∀st,itemOf (lv vs) (iv z) st=some (iv s,st)) (hq:small q=true) (st:St):List Ent:=[eX 4,eP 4 (hx st),eP 4 (hy st),eP 4 (hz st)]++bif w then [eP 2 (vD (a:=q) (b:=s) (st:=st) (by rw [hq];rfl)),eX 2] else [eX 3]
theorem XG (h:∀x',x'∈[x,y,z]->In vs.length x'/\small (vl vs x')=true):gS 40 .dB [.d (Told.dm w x y z).enc,lv vs] (bv ((Told.dm w x y z).kept (vl vs))):=by
 have kx:=h x (.head _)
 have ky:=h y (.tail _ (.head _))
 have hx:=kR kx.1
 have hy:=kR ky.1
 have hz:=kR (h z (.tail _ (.tail _ (.head _)))).1
 have hp:=kx.2
 have hq:=ky.2
 show gS _ _ _ (bv (aFw (vl vs x) (vl vs y) (bif w then vl vs x - vl vs y*vl vs z else vl vs z)))
 revert hx hy hz hp hq
 generalize vl vs x=p
 generalize vl vs y=q
 generalize vl vs z=s
 intro hx hy hz hp hq
 generalize hr:(bif w then p - q*s else s)=r
 have m (st):=vD (a:=r) (b:=p) (st:=st) (by rw [hp];exact vT _)
 unfold aFw
 refine tf (decide (ab r<ab q)) (λe=> ?_) λe=> ?_
 ·refine tf (decide (0<=r*p)) (λe2=> ?_) λe2=> ?_
  ·have hm (st):=Xo (a:=p - r) (b:=q) (st:=st) (decide_eq_true λc=>by rw [c] at e;exact absurd (of_decide_eq_true e) (dD.2 (rH r)))
   rw [e,e2]
   cases w<;>cases hr
   ·exact gS.of (λst=>Vw false hx hy hz hq st++[eQ st e,eP 2 (m st),eQ st e2,eX 2,eP 2 (hm st)]) λst=>by kernel_rfl
   ·exact gS.of (λst=>Vw true hx hy hz hq st++[eQ st e,eP 2 (m st),eQ st e2,eX 2,eP 2 (hm st)]) λst=>by kernel_rfl
  ·rw [e,e2]
   cases w<;>cases hr
   ·exact gS.of (λst=>Vw false hx hy hz hq st++[eQ st e,eP 2 (m st),eQ st e2]) λst=>by kernel_rfl
   ·exact gS.of (λst=>Vw true hx hy hz hq st++[eQ st e,eP 2 (m st),eQ st e2]) λst=>by kernel_rfl
 ·rw [e]
  cases w<;>cases hr
  ·exact gS.of (λst=>Vw false hx hy hz hq st++[eQ st e]) λst=>by kernel_rfl
  ·exact gS.of (λst=>Vw true hx hy hz hq st++[eQ st e]) λst=>by kernel_rfl
theorem aLo:RF 1 a b z=(z==a):=Gv _
theorem aBh (h1:¬i=1) (h2:¬i=2):RF i a b z=false/\(!(decide (0<=i - 1)&&decide (i - 1<2)))=true:=by
 have e1:(i==1)=false:=decide_eq_false h1
 have e2:(i==2)=false:=decide_eq_false h2
 refine ⟨by unfold RF;rw [e1,e2];rfl,?_⟩
 rcases Int.lt_or_le i 1 with h | h
 ·rw [decide_eq_false (λc:0<=i - 1=>absurd h (dD.2 (uD c)))];rfl
 ·have h3:2<i:=AY (AY h λe=>h1 e.symm) λe=>h2 e.symm
  rw [decide_eq_false (λc:i - 1<2=>absurd h3 (dD.2 (cM (Int.lt_add_of_sub_right_lt c)))),mS];rfl
theorem XF (h:∀x',x'∈[a,b,i,z]->In vs.length x'):gS 40 .dB [.d (Told.el i a b z).enc,lv vs] (bv ((Told.el i a b z).kept (vl vs))):=by
 have ha:=kR (h a (.head _))
 have hb:=kR (h b (.tail _ (.head _)))
 have hi:=kR (h i (.tail _ (.tail _ (.head _))))
 have hz:=kR (h z (.tail _ (.tail _ (.tail _ (.head _)))))
 show gS _ _ _ (bv (RF (vl vs i) (vl vs a) (vl vs b) (vl vs z)))
 revert hi
 generalize vl vs i=j
 intro hi
 by_cases h1:j=1
 ·cases h1
  rw [aLo]
  exact gS.of (λst=>[eX 4,eX 4,eP 4 (hi st),eX 4,eX 4,eP 4 (hz st),eX 4,eX 4,eP 4 (ha st)]) λst=>by kernel_rfl
 ·by_cases h2:j=2
  ·cases h2
   exact gS.of (λst=>[eX 4,eX 4,eP 4 (hi st),eX 4,eX 4,eP 4 (hz st),eX 4,eX 4,eP 4 (hb st)]) λst=>by kernel_rfl
  ·have q:=aBh (a:=vl vs a) (b:=vl vs b) (z:=vl vs z) h1 h2
   rw [q.1]
   exact gS.of (λst=>[eX 4,eX 4,eP 4 (hi st),eX 4,eQ st q.2]) λst=>by kernel_rfl
theorem XE (h:∀x',x'∈[i,z]->In vs.length x'):gS 40 .dB [.d (Told.eo i a b z).enc,lv vs] (bv ((Told.eo i a b z).kept (vl vs))):=by
 have hi:=kR (h i (.head _))
 have hz:=kR (h z (.tail _ (.head _)))
 show gS _ _ _ (bv (RF (vl vs i) a b (vl vs z)))
 revert hi
 generalize vl vs i=j
 intro hi
 by_cases h1:j=1
 ·cases h1
  rw [aLo]
  exact gS.of (λst=>[eX 4,eX 4,eP 4 (hi st),eX 4,eX 4,eP 4 (hz st)]) λst=>by kernel_rfl
 ·by_cases h2:j=2
  ·cases h2
   exact gS.of (λst=>[eX 4,eX 4,eP 4 (hi st),eX 4,eX 4,eP 4 (hz st)]) λst=>by kernel_rfl
  ·have q:=aBh (a:=a) (b:=b) (z:=vl vs z) h1 h2
   rw [q.1]
   exact gS.of (λst=>[eX 4,eX 4,eP 4 (hi st),eX 4,eQ st q.2]) λst=>by kernel_rfl
end
section
variable {t:Told} {vs:List Int}
theorem AE (ok:t.ok) (h:∀x,x∈t.scope->In vs.length x/\small (vl vs x)=true):gS 50 .dB [.d t.enc,lv vs] (bv (t.kept (vl vs))):=by
 have up {t:Told} (k:gS 40 .dB [.d t.enc,lv vs] (bv (t.kept (vl vs)))):gS 50 .dB [.d t.enc,lv vs] (bv (t.kept (vl vs))):=λst k' i=>k st k' (aB (by decide) i)
 cases t with
 | aAy l=>exact up (Ry (ok.2 l (.head _)) h)
 | Ad b l=>exact KO (Ry (ok.2 l (.head _)) λx m=>h x (.tail _ m)) (h b (.head _)).1
 | imp b l=>exact PX (Ry (ok.2 l (.head _)) λx m=>h x (.tail _ m)) (h b (.head _)).1
 | clause u d=>exact up (BB λx m=>(h x m).1)
 | ao w xs b=>exact up (XH λx m=>(h x m).1)
 | xor a b c=>exact up (PV λx m=>(h x m).1)
 | dm w x y z=>exact up (XG h)
 | el i a b z=>exact up (XF λx m=>(h x m).1)
 | eo i a b z=>exact up (XE λx m=>(h x m).1)
end
noncomputable def Nc (p:Int×Int):List Int:=(gH (p.2+1 - p.1).toNat).map λ(k:Nat)=>p.1+(k:Int)
noncomputable def dl (D:mY):List Int:=D.flatMap Nc
section
variable {D:mY} {a b:Int} {p:Int×Int}
theorem AW:a∈Nc p↔p.1<=a/\a<=p.2:=by
 refine aT.trans ⟨λh=>h.elim λk q=> ?_,λh=>⟨(a - p.1).toNat,oV.2 ((Int.toNat_lt_toNat (Jf (iF (aD h.1 h.2)))).2 (Int.sub_lt_sub_right (iF h.2) p.1)),by rw [iS (Dv h.1),gL,Hk]⟩⟩
 rw [<-q.2]
 exact ⟨eM (dL k),cM (Int.add_lt_of_lt_sub_left (Int.lt_toNat.1 (oV.1 q.1)))⟩
theorem mem_dl:a∈dl D↔inD D a:=sW.trans (exists_congr λp=>and_congr_right λY=>AW)
theorem WL (p:Int×Int):(Nc p).Nodup:=lT.2 (List.nodup_range.imp λh e=>h (yZ (pZ e)))
theorem aAw:∀ {D:mY} {b:Int},Zl b D->(dl D).Nodup
 | [],_,_=> .nil
 | p::D,b,h=>bB.2 ⟨WL p,aAw h.2.2,λx hx y hy e=>by
  have q:=(AW.1 hx).2
  rw [e] at q
  exact dD.2 q (tJ h.2.2 (mem_dl.1 hy)).1⟩
end
noncomputable def top (t:Told):Int:=t.scope.foldl max (-1)
noncomputable def xZ (G:GS) (k:Int):List Told:=G.eV.filter λt=>top t==k
noncomputable def keeps (L:List Told) (vs:List Int):Bool:=L.all (Told.kept (vl vs))
noncomputable def grow (L:List Told) (D:mY) (rows:List (List Int)):List (List Int):=rows.flatMap λrow=>((dl D).map λw=>row++[w]).filter (keeps L)
structure Cb (G:GS) (i:Nat) (b:List Int) (rows:List (List Int)):Prop where
 len:∀r,r∈rows->r.length=i
 nd:rows.Nodup
 ps:∀r,r∈rows->PS G i (vl r)/\Agree 2 (vl r) (vl b)
 all:∀v,PS G i v->Agree 2 v (vl b)->∃r,r∈rows/\Agree i v (vl r)
section
variable {G:GS} {t:Told} {L:List Told} {D:mY} {rows:List (List Int)} {r b:List Int} {w x:Int} {i n:Nat} {v:Int->Int}
theorem fold_max:∀ (l:List Int) (a i:Int),l.foldl max a<=i↔a<=i/\∀x,x∈l->x<=i
 | []=>λa i=>⟨λh=>⟨h,λx m=>absurd m bN⟩,λh=>h.1⟩
 | y::l=>λa i=>(fold_max l (max a y) i).trans ⟨λh=>⟨(gO.1 h.1).1,λx m=>(aJ.1 m).elim (λe=>by rw [e];exact (gO.1 h.1).2) (h.2 x)⟩,λh=>⟨gO.2 ⟨h.1,h.2 y (.head _)⟩,λx m=>h.2 x (.tail _ m)⟩⟩
theorem Wh:top t<=(i:Int)↔∀x,x∈t.scope->x<=i:=(fold_max _ _ _).trans ⟨λh=>h.2,λh=>⟨aD (by decide) (dL i),h⟩⟩
theorem DG (h:In r.length x):vl (r++[w]) x=vl r x:=by
 unfold vl
 rw [cD,cD,pU ((vR h.1).2 h.2)]
theorem DH:vl (r++[w]) (r.length:Int)=w:=by
 unfold vl
 rw [cD,fS,wP (bM _),Nat.sub_self];rfl
theorem Rq:r∈grow L D rows↔∃q w,q∈rows/\inD D w/\r=q++[w]/\keeps L r=true:=sW.trans ⟨λh=>h.elim λq h=>(aT.1 (eA.1 h.2).1).elim λw e=>⟨q,w,h.1,mem_dl.1 e.1,e.2.symm,(eA.1 h.2).2⟩,λh=>h.elim λq h=>h.elim λw h=>⟨q,h.1,eA.2 ⟨aT.2 ⟨w,mem_dl.2 h.2.1,h.2.2.1.symm⟩,h.2.2.2⟩⟩⟩
theorem WM (h:rows.Nodup) (d:(dl D).Nodup):(grow L D rows).Nodup:=
 List.pairwise_flatMap.2 ⟨λq Y=>(lT.2 (d.imp λn e=>n (List.singleton_inj.1 (List.append_cancel_left e)))).filter _,h.imp λn x hx y hy e=>by
  obtain ⟨w,hw⟩:=aT.1 (eA.1 hx).1
  obtain ⟨u,hu⟩:=aT.1 (eA.1 hy).1
  exact n (List.append_inj_left' (hw.2.trans (e.trans hu.2.symm)) rfl)⟩
end
section
variable {α:Type} {X:Key->Int->Prop} {G:GS} {t:Told} {L:List Told} {D:mY} {rows:List (List Int)} {r b:List Int} {w x:Int} {i n:Nat} {v:Int->Int}
theorem MS (hl:r.length=i) (a:Agree i v (vl r)) (e:v i=w):Agree (i+1) v (vl (r++[w])):=λx hx=>by
 rcases cG (cM (show x<(i:Int)+1 from hx.2)) with h | h
 ·rw [DG (by rw [hl];exact ⟨hx.1,h⟩)];exact a x ⟨hx.1,h⟩
 ·rw [h,<-hl,DH,hl];exact e
theorem Xw (g:Good X G) (m:t∈G.eV) (h:∀x,x∈t.scope->x<(i:Int)) {u:Int->Int} (a:Agree i v u):t.kept v=t.kept u:=Told.congr λx hx=>a x ⟨((g.sc t m).2 x hx).1,h x hx⟩
theorem Cb.up (g:Good X G) (h:Cb G i b rows) (hi:In G.n i) (h2:2<=i):Cb G (i+1) b (grow (xZ G i) (G.eG i) rows) where
 len r m:=(Rq.1 m).elim λq h'=>h'.elim λw h'=>by rw [h'.2.2.1,aN,h.len q h'.1];rfl
 nd:=WM h.nd (aAw (g.dm i hi).ok)
 ps r m:=by
  obtain ⟨q,w,hq,hw,e,k⟩:=Rq.1 m
  have p:=h.ps q hq
  have a:Agree i (vl q) (vl r):=λx hx=>by rw [e,DG (by rw [h.len q hq];exact hx)]
  refine ⟨⟨λx hx=> ?_,λt ht s=> ?_⟩,λx hx=>(a x (hx.mono h2)).symm.trans (p.2 x hx)⟩
  ·rcases cG (cM (show x<(i:Int)+1 from hx.2)) with l | l
   ·rw [<-a x ⟨hx.1,l⟩];exact p.1.eG x ⟨hx.1,l⟩
   ·rw [l,e,<-h.len q hq,DH,h.len q hq];exact hw
  ·refine tf (top t==i) (λc=>dH.1 k t (eA.2 ⟨ht,c⟩)) λc=> ?_
   have l:top t<(i:Int):=AY (Wh.2 λx m=>cM (s x m)) (of_decide_eq_false c)
   have l:∀x,x∈t.scope->x<(i:Int):=λx m=>jH (((fold_max t.scope (-1) (top t)).1 (aW _)).2 x m) l
   rw [<-Xw g ht l a]
   exact p.1.told t ht l
 all v p a:=by
  obtain ⟨r,hr,ar⟩:=h.all v ⟨λx hx=>p.eG x (hx.mono (bJ i)),λt ht s=>p.told t ht λx m=>iF (dA (s x m))⟩ a
  have ag:=MS (h.len r hr) ar rfl
  refine ⟨r++[v i],Rq.2 ⟨r,v i,hr,p.eG i ⟨hi.1,mZ _⟩,rfl,dH.2 λt m=> ?_⟩,ag⟩
  have m:=eA.1 m
  have l:∀x,x∈t.scope->x<((i+1:Nat):Int):=λx s=>iF (Wh.1 (pP (eq_of_beq m.2)) x s)
  rw [<-Xw g m.1 l ag]
  exact p.told t m.1 l
theorem aEn {N:Nat} {l:List α} (f:α->Nat) (nd:l.Nodup) (inj:∀a b,a∈l->b∈l->f a=f b->a=b) (lt:∀a,a∈l->f a<N):l.length<=N:=by
 rw [<-aI (as:=l) f,<-oH (n:=N)]
 refine sZ (lT.2 (nd.imp_of_mem λha hb n e=>n (inj _ _ ha hb e))) λk m=> ?_
 obtain ⟨a,q⟩:=aT.1 m
 rw [<-q.2]
 exact oV.2 (lt a q.1)
theorem GV (h:r.length=i) (h':b.length=i) (a:Agree i (vl r) (vl b)):r=b:=Lg (h.trans h'.symm) λk h1 h2=>by
 have q:=a k ⟨dL k,by rw [<-h];exact fL.2 h1⟩
 unfold vl at q
 rwa [fS,cD,cD,bZ h1,bZ h2] at q
end
section
variable {X:Key->Int->Prop} {G:GS} {D:mY} {rows:List (List Int)} {r b:List Int} {w x y:Int} {i n:Nat} {v v':Int->Int}
noncomputable def cd (x:Int):Nat:=(x+1000).toNat
theorem aLu (d:oQ D) (h:inD D x):cd x<2001/\((cd x:Nat):Int)=x+1000:=by
 have q:=tJ d.ok h
 have z:0<=x+1000:=bQ (c:=1000) (show -1000<=x from q.1)
 exact ⟨(vR z).2 (iF (bQ (aD q.2 d.hi) 1000)),iS z⟩
theorem VY {p q p' q' N:Nat} (h:q<N) (h':q'<N) (e:N*p+q=N*p'+q'):p=p'/\q=q':=by
 have a:q=q':=by rw [<-Kz h,<-Kz h',<-Nv N p q,<-Nv N p' q',e]
 rw [a] at e
 exact ⟨Nat.eq_of_mul_eq_mul_left (aX (fJ _) h) (Nat.add_right_cancel e),a⟩
theorem VX {p q N:Nat} (h:p<N) (h':q<N):N*p+q<N*N:=bA (vH h' _) (by rw [<-vP];exact fK N h)
theorem NY (g:Good X G) (h:Cb G (i+2) b rows) (hn:i+2<=G.n) (ti:∀v v',PS G (i+2) v->PS G (i+2) v'->Agree 2 v v'->Agree i v v'):rows.length<=2001*2001:=by
 have i0:In (i+2) (i:Int):=⟨dL i,fL.2 (gM (by decide))⟩
 have i1:In (i+2) ((i+1:Nat):Int):=⟨dL _,fL.2 (cI _)⟩
 have c (r) (m:r∈rows) {x} (hx:In (i+2) x):=aLu (g.dm x (hx.mono hn)) ((h.ps r m).1.eG x hx)
 refine aEn (λr=>2001*cd (vl r i)+cd (vl r (i+1:Nat))) h.nd (λr s mr ms e=> ?_) λr m=>VX (c r m i0).1 (c r m i1).1
 have e:=VY (c r mr i1).1 (c s ms i1).1 e
 have pr:=h.ps r mr
 have ps:=h.ps s ms
 have a:=ti (vl r) (vl s) pr.1 ps.1 λx hx=>(pr.2 x hx).trans (ps.2 x hx).symm
 have un {x y:Int} (p:((cd x:Nat):Int)=x+1000) (q:((cd y:Nat):Int)=y+1000) (e:cd x=cd y):x=y:=by rw [e,q] at p;exact (pZ (by rw [gL 1000,gL 1000];exact p)).symm
 refine GV (h.len r mr) (h.len s ms) λx hx=> ?_
 rcases cG (cM (show x<((i+1:Nat):Int)+1 from hx.2)) with l | l
 ·rcases cG (cM (show x<(i:Int)+1 from l)) with l | l
  ·exact a x ⟨hx.1,l⟩
  ·rw [l];exact un (c r mr i0).2 (c s ms i0).2 e.1
 ·rw [l];exact un (c r mr i1).2 (c s ms i1).2 e.2
end
section
variable {X:Key->Int->Prop} {G:GS} {t:Told} {rows:List (List Int)} {r b:List Int} {x y:Int} {i n:Nat} {v v':Int->Int}
noncomputable def early (G:GS):List Told:=xZ G (-1)++xZ G 0++xZ G 1
theorem Mg:t∈early G↔t∈G.eV/\∀x,x∈t.scope->x<2:=by
 have m {k:Int}:t∈xZ G k↔t∈G.eV/\top t=k:=eA.trans (and_congr_right λY=>beq_iff_eq)
 have lo: -1<=top t:=((fold_max t.scope (-1) (top t)).1 (aW _)).1
 have up:(∀x,x∈t.scope->x<2)↔top t<=1:=((Wh (i:=1)).trans ⟨λh x m=>iF (h x m),λh x m=>cM (h x m)⟩).symm
 rw [up]
 refine aV.trans ⟨λh=>h.elim (λh=>(aV.1 h).elim (λh=> ?_) λh=> ?_) λh=> ?_,λh=> ?_⟩
 ·have q:=m.1 h;exact ⟨q.1,by rw [q.2];decide⟩
 ·have q:=m.1 h;exact ⟨q.1,by rw [q.2];decide⟩
 ·have q:=m.1 h;exact ⟨q.1,by rw [q.2];decide⟩
 ·rcases cG h.2 with l | l
  ·rcases cG (cM (show top t<0+1 from l)) with l | l
   ·exact .inl (aL _ (m.2 ⟨h.1,dU (cM (show top t< -1+1 from l)) lo⟩))
   ·exact .inl (aQ _ (m.2 ⟨h.1,l⟩))
  ·exact .inr (m.2 ⟨h.1,l⟩)
theorem two_in {P:Int->Prop} (h0:P 0) (h1:P 1) (z:Int) (h:In 2 z):P z:=by
 rcases EA (n:=1) h.2 with e | e
 ·rw [e];exact h1
 ·rw [dU (cM (show z<0+1 from e)) h.1];exact h0
theorem NZ (g:Good X G) (hx:inD (G.eG 0) x) (hy:inD (G.eG 1) y):Cb G 2 [x,y] (bif keeps (early G) [x,y] then [[x,y]] else []):=by
 have d:∀z,In 2 z->inD (G.eG z) (vl [x,y] z):=two_in hx hy
 refine tf (keeps (early G) [x,y]) (λe=> ?_) λe=> ?_
 ·rw [e]
  have k {t} (m:t∈G.eV) (s:∀x,x∈t.scope->x<2):t.kept (vl [x,y])=true:=dH.1 e t (Mg.2 ⟨m,s⟩)
  have p:PS G 2 (vl [x,y])/\Agree 2 (vl [x,y]) (vl [x,y]):=⟨⟨d,λt m s=>k m s⟩,λY Y=>rfl⟩
  exact ⟨λr m=>by rw [aC.1 m];rfl,fP _ _,λr m=>by rw [aC.1 m];exact p,λv Y a=>⟨[x,y],.head _,a⟩⟩
 ·rw [e]
  refine ⟨λr m=>absurd m bN,.nil,λr m=>absurd m bN,λv p a=> ?_⟩
  refine absurd (dH.2 λt m=> ?_) (oJ.1 e)
  have q:=Mg.1 m
  rw [<-Xw (i:=2) g q.1 q.2 a]
  exact p.told t q.1 q.2
theorem Wy (g:Good X G):PS G G.n v↔iK G v:=⟨λh=>⟨h.eG,λt m=>h.told t m λx s=>((g.sc t m).2 x s).2⟩,λh=>⟨h.eG,λt m Y=>h.told t m⟩⟩
theorem aDn (g:Good X G) (h:Cb G G.n b rows) (un:∀v v',iK G v->iK G v'->Agree 2 v v'->Agree G.n v v') {w:Bool} (hw:w=true↔∃v,iK G v/\Agree 2 v (vl b)):rows.length=bif w then 1 else 0:=by
 cases rows with
 | nil=>
  cases w with
  | false=>rfl
  | true=>exact (hw.1 rfl).elim λv s=>(h.all v ((Wy g).2 s.1) s.2).elim λr m=>absurd m.1 bN
 | cons r l=>
  have pr:=h.ps r (.head _)
  rw [hw.2 ⟨vl r,(Wy g).1 pr.1,pr.2⟩]
  cases l with
  | nil=>rfl
  | cons s l=>
   have ps:=h.ps s (.tail _ (.head _))
   have e:=GV (h.len r (.head _)) (h.len s (.tail _ (.head _))) (un _ _ ((Wy g).1 pr.1) ((Wy g).1 ps.1) λx hx=>(pr.2 x hx).trans (ps.2 x hx).symm)
   exact absurd (.head _) (e▸(bV.1 h.nd).1)
end
noncomputable def Dn (st:St) (v:V) (l:List aE):Prop:=v= .d (.list l)\/∃r,v= .ref r/\At st r (.list l)
section
variable {st:St} {v a b:V} {l xs ys:List aE} {r m:Nat} {o o':O} {L:List Told} {vs:List Int}
theorem DO {o o':O}:∀ {M:List (Nat×O)},mC M r=some o->mC (lY M r o') r=some o'/\lY (lY M r o') r o=M
 | [],h=>nomatch h
 | (k,p)::M,h=>by
  by_cases e:k=r
  ·have p1:lY ((k,p)::M) r o'=(k,o')::M:=if_pos e
   have q:p=o:=aF ((if_pos e).symm.trans h)
   rw [p1,q]
   exact ⟨if_pos e,if_pos e⟩
  ·have p1:lY ((k,p)::M) r o'=(k,p)::lY M r o':=if_neg e
   have i:=DO (M:=M) (o:=o) (o':=o') ((if_neg e).symm.trans h)
   rw [p1]
   exact ⟨(if_neg e).trans i.1,(if_neg e).trans (congrArg _ i.2)⟩
theorem PO (h:Dn st v l):No v st=some (l,st):=by
 rcases h with h | ⟨r,h,q⟩
 ·rw [h];rfl
 ·rw [h];exact aY q.get rfl
theorem TF (ha:Dn st a xs) (hb:Dn st b ys) (h:xs.length+ys.length<=bW):binOp .add a b st=some (.d (.list (xs++ys)),st):=by
 have c:((do let x<-No a;let y<-No b;Uy (x.length+y.length);pure (.d (.list (x++y)))):M V) st=some (.d (.list (xs++ys)),st):=aY (a:=xs) (PO ha) (aY (a:=ys) (PO hb) (aY (a:=()) (by show dK _ st=_;rw [decide_eq_true h];rfl) rfl))
 rcases ha with h | ⟨r,h,q⟩
 ·rw [h] at c⊢;exact c
 ·rw [h] at c⊢;exact c
theorem QR {kvs:List (Int×V)} {k:Int} (h:At st r (.di kvs)) (d:V):method (.ref r) .qK [iv k,d] st=some ((fF kvs k).getD d,st):=aY (a:=(iv k,d)) rfl (aY (a:=k) rfl (aY (aY h.get rfl) rfl))
theorem nil_eq (l:List aE) (st:St):nC .eq (.d (.list l)) (.d (.list [])) st=some (bv l.isEmpty,st):=by
 cases l with
 | nil=>rfl
 | cons x l=>exact eq_nil
theorem Vb (L:List Told) (vs:List Int):((L.filter λt=> !t.kept (vl vs)).map Told.enc).isEmpty=keeps L vs:=by
 induction L with
 | nil=>rfl
 | cons t L ih=>
  unfold keeps
  rw [kX,List.all_cons]
  cases t.kept (vl vs) with
  | true=>exact ih
  | false=>rfl
noncomputable abbrev aQa (s w:Ex):Ex:= .cmp (.comp (.v .cK) (.n .cK) s [.not (.call .dB [.v .cK,w])]) [(.eq,.lst [])]
noncomputable abbrev Xn (a:Nat) (b:List Int) (e rows one grown row low high worth:V):List (Nm×V):=[(.fZ,DA),(.nY,.ref a),(.Fp,lv b),(.Oz,e),(.iC,rows),(.dP,one),(.yN,grown),(.gW,row),(.dY,low),(.cT,high),(.qM,worth)]
theorem PM (r:List Int) (w:Int) (st:St) (h:r.length<=100):binOp .add (lv r) (.d (.list [.int w])) st=some (lv (r++[w]),st):=by
 unfold lv
 rw [cS]
 exact Ys _ _ st (by rw [aI];exact aB (bK h) (by decide))
theorem aLr {a:Nat} {b row:List Int} {kvs:List (Int×V)} {i w:Int} {e rows grown lo hi:V} (hl:row.length<=100) (hd:At st a (.di kvs)) (hv:Dn st ((fF kvs i).getD (.d (.list []))) (L.map Told.enc)) (hk:∀t,t∈L->gS 50 .dB [.d t.enc,lv (row++[w])] (bv (t.kept (vl (row++[w]))))):
  ∀k,60<=k->(ev k).E (Xn a b e rows (iv i) grown (lv row) lo hi (iv w)) (aQa (.met (.v .nY) .qK [.v .dP,.lst []]) (.bin .add (.v .gW) (.lst [.v .qM]))) st=some (bv (keeps L (row++[w])),st):=by
 have c (st:St):∀k,55<=k->kL (ev k).E (Xn a b e rows (iv i) grown (lv row) lo hi (iv w)) (.v .cK) (.n .cK) [.not (.call .dB [.v .cK,.bin .add (.v .gW) (.lst [.v .qM])])] (L.map Told.enc) st=some ((L.filter λt=> !t.kept (vl (row++[w]))).map Told.enc,st):=Gz (F:=Told.enc) (d:=Told.enc) (c:=λt=> !t.kept (vl (row++[w]))) L λt m=>⟨_,rfl,λk i=>⟨kG (n:=55) [eP 2 (PM row w st hl),eC (hk t m st)] (by kernel_rfl) k i,kG (n:=55) [] (by kernel_rfl) k i⟩⟩
 have g:=QR (k:=i) hd (.d (.list []))
 have kd:=kS hd (k:=2) rfl
 have e:=nil_eq ((L.filter λt=> !t.kept (vl (row++[w]))).map Told.enc) st
 rw [Vb] at e
 rcases hv with h | ⟨r,h,q⟩
 ·rw [h] at g
  exact kG (n:=60) [eN kd,eN kd,eP 8 g,eK (c st),eP 3 e] (by kernel_rfl)
 ·rw [h] at g
  have z:=DO (o':= .sJ (L.map Told.enc)) q
  have th:Og (some r) ⟨lY st.objs r (.sJ (L.map Told.enc)),st.next⟩=some ((),st):=Pj (st:=⟨lY st.objs r (.sJ (L.map Told.enc)),st.next⟩) (L:=st.objs) z.1 z.2
  exact kG (n:=60) [eN kd,eN kd,eP 8 g,eI (Pk q rfl),eK (c ⟨lY st.objs r (.sJ (L.map Told.enc)),st.next⟩),eU 16 th,eP 3 e] (by kernel_rfl)
end
noncomputable def qB (r:List Int):aE:= .list (r.map .int)
noncomputable abbrev aOe:List Sx:=[.gR (aQa (.met (.v .nY) .qK [.v .dP,.lst []]) (.bin .add (.v .gW) (.lst [.v .qM]))) [.ex (.met (.v .yN) .iI [.bin .add (.v .gW) (.lst [.v .qM])])] []]
noncomputable abbrev aPs:List Sx:=[.for (.n .qM) (.blt .range [.v .dY,.bin .add (.v .cT) (.int 1)]) aOe]
noncomputable abbrev aOg:List Sx:=[.for (.t [.n .dY,.n .cT]) (.met (.v .fZ) .jX [.v .dP]) aPs]
structure uL (st:St) (a:Nat) (kvs:List (Int×V)) (F:Int->List Told):Prop where
 di:At st a (.di kvs)
 get:∀k,Dn st ((fF kvs k).getD (.d (.list []))) ((F k).map Told.enc)
section
variable {K:Kx} {G:GS} {T:List (Nat×O)} {m a:Nat} {st:St} {kvs:List (Int×V)} {F:Int->List Told} {b row:List Int} {e rows lo hi x0:V} {i w:Int} {L:List Told} {o:O} {ys:List aE} {D:mY}
theorem sF {r:Nat} {o:O} {B:List (Nat×O)}:∀ {A:List (Nat×O)},mC A r=some o->mC (A++B) r=some o
 | [],h=>nomatch h
 | (k,p)::A,h=>by
  by_cases e:k=r
  ·exact (if_pos e).trans ((if_pos e).symm.trans h)
  ·exact (if_neg e).trans (sF ((if_neg e).symm.trans h))
theorem uL.mono {st':St} (h:uL st a kvs F) (e:∃B,st'.objs=st.objs++B):uL st' a kvs F:=by
 have up {r o} (q:At st r o):At st' r o:=by obtain ⟨B,e⟩:=e;unfold At;rw [e];exact sF q
 exact ⟨up h.di,λk=>(h.get k).imp id λq=>q.imp λr q=>⟨q.1,up q.2⟩⟩
theorem uL.k (h:uL (cR K G T m) a kvs F) (o:O):uL (vZ K G T m o) a kvs F:=h.mono ⟨[(m,o)],(bU ..).symm⟩
theorem aCh (hO:Ok T m) (hl:row.length<=100) (hL:uL (cR K G T m) a kvs F) (hk:∀t,t∈F i->gS 50 .dB [.d t.enc,lv (row++[w])] (bv (t.kept (vl (row++[w]))))) (hy:ys.length<bW):
  ∀k,65<=k->(ev k).B aOe (Xn a b e rows (iv i) (.ref m) (lv row) lo hi (iv w)) (vZ K G T m (.list ys))=some ((.next,Xn a b e rows (iv i) (.ref m) (lv row) lo hi (iv w)),vZ K G T m (.list (ys++bif keeps (F i) (row++[w]) then [qB (row++[w])] else []))):=by
 have q:=hL.k (.list ys)
 have c:=aLr (b:=b) (e:=e) (rows:=rows) (grown:= .ref m) (lo:=lo) (hi:=hi) hl q.di (q.get i) hk
 have at_:At (vZ K G T m (.list ys)) m (.list ys):=QA hO
 have kd:=kS at_ (k:=1) rfl
 revert c
 cases keeps (F i) (row++[w]) with
 | true=>exact λc=>qI (n:=65) [eE c,eN kd,eP 2 (PM row w (vZ K G T m (.list ys)) hl),eN kd,eP 8 (pR (x:=qB (row++[w])) at_ hy (XI hO))] (by kernel_rfl)
 | false=>intro c;show ∀k,65<=k->_=some (_,vZ K G T m (.list (ys++[])));rw [cN];exact qI (n:=65) [eE c] (by kernel_rfl)
end
section
variable {K:Kx} {G:GS} {T:List (Nat×O)} {m a:Nat} {kvs:List (Int×V)} {F:Int->List Told} {b row:List Int} {e rows lo hi x0:V} {i:Int} {ys:List aE} {D:mY}
theorem RA (p:List Int->Bool) (r:List Int) (l:List (List Int)) (ys:List aE):(ys++bif p r then [qB r] else [])++(l.filter p).map qB=ys++((r::l).filter p).map qB/\(ys++bif p r then [qB r] else []).length+(l.filter p).length=ys.length+((r::l).filter p).length:=by
 rw [kX]
 cases p r with
 | true=>exact ⟨bU ..,by rw [aN];exact (bL ..).trans (congrArg _ (dQ ..))⟩
 | false=>exact ⟨congrArg (· ++_) (cN ys),congrArg (oW · +_) (cN ys)⟩
noncomputable def TZ (F:Int->List Told) (i:Int) (row ws:List Int):Prop:=row.length<=100/\∀w,w∈ws->∀t,t∈F i->gS 50 .dB [.d t.enc,lv (row++[w])] (bv (t.kept (vl (row++[w]))))
theorem MR (hO:Ok T m) (hL:uL (cR K G T m) a kvs F):∀ (ws:List Int) (ys:List aE) (x0:V),TZ F i row ws->ys.length+((ws.map λw=>row++[w]).filter (keeps (F i))).length<bW->
  ∃x1,∀k,65<=k->forL (ev k).B (.n .qM) aOe (ws.map .int) (Xn a b e rows (iv i) (.ref m) (lv row) lo hi x0) (vZ K G T m (.list ys))=some ((.next,Xn a b e rows (iv i) (.ref m) (lv row) lo hi x1),vZ K G T m (.list (ys++((ws.map λw=>row++[w]).filter (keeps (F i))).map qB)))
 | []=>λys x0 Y Y=>⟨x0,λk Y=>by show some _=some (_,vZ K G T m (.list (ys++[])));rw [cN]⟩
 | w::ws=>λys x0 hk hy=>by
  have q:=RA (keeps (F i)) (row++[w]) (ws.map λw=>row++[w]) ys
  have hy:ys.length+(((row++[w])::ws.map λw=>row++[w]).filter (keeps (F i))).length<bW:=hy
  have hs:=aX (aS _ _) hy
  rw [<-q.2] at hy
  obtain ⟨x1,ih⟩:=MR hO hL ws _ (iv w) ⟨hk.1,λu m=>hk.2 u (.tail _ m)⟩ hy
  refine ⟨x1,?_⟩
  rw [q.1] at ih
  exact qU (b:=[(.qM,iv w)]) rfl (aCh hO hk.1 hL (hk.2 w (.head _)) hs) ih
theorem aDq {p:Int×Int} (h: -1001<p.1/\p.1<=p.2/\p.2<=1000) (st:St):Et (.GW p.1 (p.2+1)) st=some (((Nc p).map .int,none),st):=by
 have g:(decide ((p.2+1 - p.1).toNat<=10000)&&small p.1&&small (p.2+1))=true:=by
  rw [kY,kY]
  exact ⟨⟨decide_eq_true (Int.toNat_le.2 (Int.sub_left_le_of_le_add (aD (bQ h.2.2 1) (aD (by decide) (bQ (dA h.1) _))))),zI.small (kM.2 ⟨aD (by decide) (dA h.1),aD h.2.1 (aD h.2.2 (by decide))⟩)⟩,zI.small (kM.2 ⟨aD (by decide) (aD (dA h.1) (aD h.2.1 (eM (by decide)))),aD (bQ h.2.2 1) (by decide)⟩)⟩
 have e:(Nc p).map mE=(gH (p.2+1 - p.1).toNat).map λ(k:Nat)=> .int (p.1+(k:Int)):=dM ..
 rw [e]
 exact aY (a:=()) (by rw [g];rfl) rfl
theorem OQ (hO:Ok T m) (hL:uL (cR K G T m) a kvs F):∀ (D:mY) (ys:List aE) (lo hi x0:V),(∀p,p∈D-> -1001<p.1/\p.1<=p.2/\p.2<=1000)->TZ F i row (dl D)->ys.length+(((dl D).map λw=>row++[w]).filter (keeps (F i))).length<bW->
  ∃lo' hi' x1,∀k,70<=k->forL (ev k).B (.t [.n .dY,.n .cT]) aPs (D.map jL) (Xn a b e rows (iv i) (.ref m) (lv row) lo hi x0) (vZ K G T m (.list ys))=some ((.next,Xn a b e rows (iv i) (.ref m) (lv row) lo' hi' x1),vZ K G T m (.list (ys++(((dl D).map λw=>row++[w]).filter (keeps (F i))).map qB)))
 | []=>λys lo hi x0 Y Y Y=>⟨lo,hi,x0,λk Y=>by show some _=some (_,vZ K G T m (.list (ys++[])));rw [cN]⟩
 | p::D=>λys lo hi x0 hD hk hy=>by
  have d:dl (p::D)=Nc p++dl D:=rfl
  rw [d,cS,Hj] at hy⊢
  rw [aN,<-bL] at hy
  obtain ⟨x1,h1⟩:=MR (b:=b) (e:=e) (rows:=rows) (lo:=iv p.1) (hi:=iv p.2) hO hL (Nc p) ys x0 ⟨hk.1,λw q=>hk.2 w (aL _ q)⟩ (aX (aS _ _) hy)
  obtain ⟨lo',hi',x2,ih⟩:=OQ hO hL D (ys++(((Nc p).map λw=>row++[w]).filter (keeps (F i))).map qB) (iv p.1) (iv p.2) x1 (λq m=>hD q (.tail _ m)) ⟨hk.1,λw q=>hk.2 w (aQ _ q)⟩ (by rw [aN,aI];exact hy)
  rw [bU,<-cS] at ih
  exact ⟨lo',hi',x2,qU (b:=[(.dY,iv p.1),(.cT,iv p.2)]) rfl (qI (n:=70) [eI (aDq (hD p (.head _)) (vZ K G T m (.list ys))),eF h1] (by kernel_rfl)) ih⟩
end
noncomputable abbrev aQt:List Sx:=[.for (.n .gW) (.v .iC) aOg]
section
variable {K:Kx} {G:GS} {T:List (Nat×O)} {m a:Nat} {kvs:List (Int×V)} {F:Int->List Told} {b:List Int} {e rows lo hi x0 row:V} {i:Int} {ys:List aE} {D:mY}
theorem DS (hO:Ok T m) (hL:uL (cR K G T m) a kvs F) (hi':In G.n i) (hD:∀p,p∈G.eG i-> -1001<p.1/\p.1<=p.2/\p.2<=1000):∀ (rs:List (List Int)) (ys:List aE) (row lo hi x0:V),(∀r,r∈rs->TZ F i r (dl (G.eG i)))->ys.length+(grow (F i) (G.eG i) rs).length<bW->
  ∃row' lo' hi' x1,∀k,75<=k->forL (ev k).B (.n .gW) aOg (rs.map qB) (Xn a b e rows (iv i) (.ref m) row lo hi x0) (vZ K G T m (.list ys))=some ((.next,Xn a b e rows (iv i) (.ref m) row' lo' hi' x1),vZ K G T m (.list (ys++(grow (F i) (G.eG i) rs).map qB)))
 | []=>λys row lo hi x0 Y Y=>⟨row,lo,hi,x0,λk Y=>by show some _=some (_,vZ K G T m (.list (ys++[])));rw [cN]⟩
 | r::rs=>λys row lo hi x0 hk hy=>by
  have d:grow (F i) (G.eG i) (r::rs)=((dl (G.eG i)).map λw=>r++[w]).filter (keeps (F i))++grow (F i) (G.eG i) rs:=rfl
  rw [d] at hy⊢
  rw [aN,<-bL] at hy
  obtain ⟨lo1,hi1,x1,h1⟩:=OQ (b:=b) (e:=e) (rows:=rows) hO hL (G.eG i) ys lo hi x0 hD (hk r (.head _)) (aX (aS _ _) hy)
  obtain ⟨row',lo',hi2,x2,ih⟩:=DS hO hL hi' hD rs (ys++(((dl (G.eG i)).map λw=>r++[w]).filter (keeps (F i))).map qB) (lv r) lo1 hi1 x1 (λq m=>hk q (.tail _ m)) (by rw [aN,aI];exact hy)
  rw [bU,<-cS] at ih
  have g:=qH K (T++[(m,.list ys)]) (m+1) hi'
  exact ⟨row',lo',hi2,x2,qU (b:=[(.gW,lv r)]) rfl (qI (n:=75) [eC g,eF h1] (by kernel_rfl)) ih⟩
end
noncomputable abbrev aOf:List Sx:=[.asg (.n .yN) (.zE []),.for (.n .gW) (.v .iC) aOg,.asg (.n .iC) (.v .yN)]
noncomputable def RV (K:Kx) (G:GS) (a:Nat) (kvs:List (Int×V)) (F:Int->List Told) (T:List (Nat×O)) (m:Nat) (v:V) (l:List aE):Prop:=v= .d (.list l)\/∃A r,v= .ref r/\T=A++[(r,.list l)]/\Ok A r/\r<m/\uL (cR K G A r) a kvs F
section
variable {K:Kx} {G:GS} {T A:List (Nat×O)} {m a r:Nat} {kvs:List (Int×V)} {F:Int->List Told} {b:List Int} {e v g lo hi x0 row:V} {i:Int} {l:List aE} {D:mY} {o o':O} {rs:List (List Int)}
theorem aJw (hO:Ok A r):At (vZ K G (A++[(r,o)]) m o') r o/\∀p,Um (vZ K G (A++[(r,o)]) m o') r p (vZ K G (A++[(r,p)]) m o').objs:=by
 have f:=mJ (r:=r) (o:=o) (M:=[(m,o')]) _ (hO.fs (K:=K) (G:=G))
 have e (o:O):core K G++A++(r,o)::[(m,o')]=core K G++(A++[(r,o)]++[(m,o')]):=by rw [bU,bU];rfl
 rw [e] at f
 exact ⟨f.1,λp=>(f.2 p).trans (e p)⟩
theorem aEd (hO:Ok T m) (hL:uL (cR K G T m) a kvs F) (hv:RV K G a kvs F T m v (rs.map qB)) (hi':In G.n i) (hD:∀p,p∈G.eG i-> -1001<p.1/\p.1<=p.2/\p.2<=1000) (hk:∀r,r∈rs->TZ F i r (dl (G.eG i))) (hy:(grow (F i) (G.eG i) rs).length<bW):
  ∃row' lo' hi' x1,∀k,80<=k->(ev k).B aOf (Xn a b e v (iv i) g row lo hi x0) (cR K G T m)=some ((.next,Xn a b e (.ref m) (iv i) (.ref m) row' lo' hi' x1),cR K G (T++[(m,.list ((grow (F i) (G.eG i) rs).map qB))]) (m+1)):=by
 have hy:([]:List aE).length+(grow (F i) (G.eG i) rs).length<bW:=by rw [lO,eH];exact hy
 rcases hv with h | ⟨A,r,h,hT,hA,hr,hLA⟩
 ·obtain ⟨row',lo',hi2,x1,q⟩:=DS (b:=b) (e:=e) (rows:=v) hO hL hi' hD rs [] row lo hi x0 hk hy
  refine ⟨row',lo',hi2,x1,?_⟩
  rw [h] at q⊢
  exact qI (n:=80) [eF q] (by kernel_rfl)
 ·have hO':Ok (A++[(r,.sJ (rs.map qB))]) m:=⟨λp hp=>(aV.1 hp).elim (λq=>lS (hA.1 p q) hr) λq=>by rw [aC.1 q];exact hr,hO.2⟩
  obtain ⟨row',lo',hi2,x1,q⟩:=DS (b:=b) (e:=e) (rows:=v) hO' (hLA.mono ⟨[(r,.sJ (rs.map qB))],(bU ..).symm⟩) hi' hD rs [] row lo hi x0 hk hy
  refine ⟨row',lo',hi2,x1,?_⟩
  rw [h] at q⊢
  rw [hT]
  have f1:=aJw (K:=K) (G:=G) (m:=m) (o:= .list (rs.map qB)) (o':= .list []) hA
  have f2:=aJw (K:=K) (G:=G) (m:=m) (o:= .sJ (rs.map qB)) (o':= .list ((grow (F i) (G.eG i) rs).map qB)) hA
  have th:Og (some r) (vZ K G (A++[(r,.sJ (rs.map qB))]) m (.list ((grow (F i) (G.eG i) rs).map qB)))=some ((),vZ K G (A++[(r,.list (rs.map qB))]) m (.list ((grow (F i) (G.eG i) rs).map qB))):=Pj f2.1 (f2.2 _)
  exact qI (n:=80) [eI (p:=(rs.map qB,some r)) (st':=vZ K G (A++[(r,.sJ (rs.map qB))]) m (.list [])) (Pk f1.1 (f1.2 _)),eF q,eU 16 th] (by kernel_rfl)
end
section
variable {X:Key->Int->Prop} {K:Kx} {G:GS} {T:List (Nat×O)} {m a i:Nat} {kvs:List (Int×V)} {b row ws:List Int} {rows:List (List Int)} {x:Int} {D:mY}
theorem Se (d:oQ D) (h:inD D x):small x=true:=by
 have q:=tJ d.ok h
 have l:x<=1000:=aD q.2 d.hi
 exact zI.small (kM.2 ⟨aD (by decide) (dA q.1),aD l (by decide)⟩)
theorem aQp (g:Good X G) (h:Cb G i b rows) (hn:i<G.n) (h60:G.n<=60):∀r,r∈rows->TZ (xZ G) i r (dl (G.eG i)):=λr m=>
 have hl:=h.len r m
 ⟨by rw [hl];exact aB (iN hn) (aB h60 (by decide)),λw hw t ht=>by
  have q:=eA.1 ht
  have s:=g.sc t q.1
  refine AE s.1 λx hx=> ?_
  have le:x<=(i:Int):=Wh.1 (pP (eq_of_beq q.2)) x hx
  have ix:=s.2 x hx
  refine ⟨⟨ix.1,by rw [aN,hl];exact iF le⟩,Se (g.dm x ix) ?_⟩
  rcases cG le with l | l
  ·rw [DG (by rw [hl];exact ⟨ix.1,l⟩)];exact (h.ps r m).1.eG x ⟨ix.1,l⟩
  ·rw [l,<-hl,DH,hl];exact mem_dl.1 hw⟩
theorem aFu (d:oQ D):∀p,p∈D-> -1001<p.1/\p.1<=p.2/\p.2<=1000:=λp m=>
 have l:=Ss d.ok p m
 ⟨(tJ d.ok ⟨p,m,aW _,l⟩).1,l,aD (tJ d.ok ⟨p,m,l,aW _⟩).2 d.hi⟩
end
noncomputable def BL (i:Nat):Nat->List aE
 | 0=>[]
 | j+1=> .int (i:Int)::BL (i+1) j
section
variable {X:Key->Int->Prop} {K:Kx} {G:GS} {a:Nat} {kvs:List (Int×V)} {b:List Int} {e:V}
theorem OV (g:Good X G) (h60:G.n<=60) (ti:∀i,2<i->i<=G.n->∀v v',PS G i v->PS G i v'->Agree 2 v v'->Agree (i - 2) v v'):∀ (j i:Nat) (T:List (Nat×O)) (m:Nat) (v one gr row lo hi x0:V) (rows:List (List Int)),i+j=G.n->2<=i->Cb G i b rows->Ok T m->uL (cR K G T m) a kvs (xZ G)->RV K G a kvs (xZ G) T m v (rows.map qB)->
  ∃Q m' v' one' gr' row' lo' hi' x' rows',(Cb G G.n b rows'/\RV K G a kvs (xZ G) (T++Q) m' v' (rows'.map qB)/\m<=m')/\∀k,85<=k->forL (ev k).B (.n .dP) aOf (BL i j) (Xn a b e v one gr row lo hi x0) (cR K G T m)=some ((.next,Xn a b e v' one' gr' row' lo' hi' x'),cR K G (T++Q) m')
 | 0=>λi T m v one gr row lo hi x0 rows hn Y h Y Y hv=>by
  refine ⟨[],m,v,one,gr,row,lo,hi,x0,rows,?_⟩
  rw [cN,<-hn]
  exact ⟨⟨h,hv,bM m⟩,λk Y=>rfl⟩
 | j+1=>λi T m v one gr row lo hi x0 rows hn h2 h hO hL hv=>by
  have hn':i+1+j=G.n:=by rw [bL,dQ 1];exact hn
  have hi':i<G.n:=by rw [<-hn'];exact bA (cI i) (aS _ _)
  have hIn:In G.n (i:Int):=⟨dL i,fL.2 hi'⟩
  have up:=h.up g hIn h2
  have len:(grow (xZ G i) (G.eG i) rows).length<=2001*2001:=by
   obtain ⟨q,hq⟩:=yY (iN (bA (cI 1) h2))
   subst hq
   exact NY (i:=q) g up hi' λv v' p p' ag=>ti (q+1+1) (oE h2) hi' v v' p p' ag
  obtain ⟨row1,lo1,hi1,x1,q⟩:=aEd (b:=b) (e:=e) (g:=gr) (lo:=lo) (hi:=hi) (x0:=x0) (row:=row) hO hL hv hIn (aFu (g.dm i hIn)) (aQp g h hi' h60) (aX len (by decide))
  obtain ⟨Q,m',v',one',gr',row',lo',hi2,x',rows',r,ih⟩:=OV g h60 ti j (i+1) (T++[(m,.list ((grow (xZ G i) (G.eG i) rows).map qB))]) (m+1) (.ref m) (iv i) (.ref m) row1 lo1 hi1 x1 _ hn' (gK h2) up hO.push (hL.k _) (.inr ⟨T,m,rfl,rfl,hO,cI m,hL⟩)
  rw [bU] at r ih
  exact ⟨_,m',v',one',gr',row',lo',hi2,x',rows',⟨r.1,r.2.1,aB (bJ m) r.2.2⟩,qU (b:=[(.dP,iv i)]) rfl (λk hk=>q k (aB (by decide) hk)) ih⟩
end
section
variable {X:Key->Int->Prop} {K:Kx} {G:GS} {T:List (Nat×O)} {m a n i:Nat} {kvs:List (Int×V)} {b:List Int} {L:List Told} {st:St} {x y:Int}
theorem IK:∀ (j i:Nat),(gH j).map (λ(k:Nat)=>mE ((i:Int)+(k:Int)))=BL i j
 | 0=>λi=>rfl
 | j+1=>λi=>by
  rw [List.range_succ_eq_map,dX,dM]
  refine congr (congrArg _ (congrArg _ (cA _))) ?_
  rw [<-IK j (i+1)]
  exact List.map_congr_left λk Y=>congrArg mE (by show (i:Int)+((k:Int)+1)=(i:Int)+1+k;rw [gL (k:Int),fT])
theorem aLb (h2:2<=n) (h:n<=60) (st:St):Et (.GW 2 n) st=some ((BL 2 (n - 2),none),st):=by
 rw [<-IK]
 have e:((n:Int) - 2).toNat=n - 2:=by rw [<-fS (n - 2),Int.ofNat_sub h2];rfl
 rw [<-e]
 have g:(decide (((n:Int) - 2).toNat<=10000)&&small 2&&small (n:Int))=true:=by
  rw [e,decide_eq_true (aB (Bb n 2) (aB h (by decide))),show small (n:Int)=true from decide_eq_true (aX h (by decide))];rfl
 exact aY (a:=()) (by rw [g];rfl) rfl
theorem aDh {v e one g row lo hi x0:V} {l:List aE} {F:Int->List Told} {m':Nat} (hv:RV K G a kvs F T m v l):∀k,9<=k->(ev k).E (Xn n b e v one g row lo hi x0) (.blt .len [.v .iC]) (cR K G T m')=some (iv l.length,cR K G T m'):=by
 rcases hv with h | ⟨A,r,h,hT,hA,_⟩
 ·rw [h];exact kG [] (by kernel_rfl)
 ·rw [h,hT]
  have q:At (cR K G (A++[(r,.list l)]) m') r (.list l):=QA (K:=K) (G:=G) (o:= .list l) hA
  exact kG [eP 7 (zG q)] (by kernel_rfl)
theorem RG (hL:uL st a kvs (xZ G)) (h:G.eV.length<=2000):∃u,binOp .add ((fF kvs (-1)).getD (.d (.list []))) ((fF kvs 0).getD (.d (.list []))) st=some (u,st)/\binOp .add u ((fF kvs 1).getD (.d (.list []))) st=some (.d (.list ((early G).map Told.enc)),st):=by
 have l (k):((xZ G k).map Told.enc).length<=2000:=by rw [aI];exact aB (iZ _ _) h
 have s:((xZ G (-1)).map Told.enc).length+((xZ G 0).map Told.enc).length<=2000+2000:=iO (l _) (l _)
 have e:(early G).map Told.enc=(xZ G (-1)).map Told.enc++(xZ G 0).map Told.enc++(xZ G 1).map Told.enc:=by unfold early;rw [cS,cS]
 rw [e]
 exact ⟨_,TF (hL.get (-1)) (hL.get 0) (aB s (by decide)),TF (.inl rfl) (hL.get 1) (by rw [aN];exact aB (iO s (l 1)) (by decide))⟩
end
section
variable {X:Key->Int->Prop} {K:Kx} {G:GS} {T Q:List (Nat×O)} {m m' a n i:Nat} {kvs:List (Int×V)} {b:List Int} {st:St} {x y:Int}
theorem PJ {rows:List aE} {v' o1 o2 o3 o4 o5 o6:V} (h2:2<=G.n) (h60:G.n<=60) (hl:G.eV.length<=2000) (hL:uL (cR K G T m) a kvs (xZ G)) (hk:∀t,t∈early G->gS 50 .dB [.d t.enc,lv [x,y]] (bv (t.kept (vl [x,y]))))
  (h:∀k,85<=k->forL (ev k).B (.n .dP) aOf (BL 2 (G.n - 2)) (Xn a [x,y] (.d (.list ((early G).map Told.enc))) (.d (.list (bif keeps (early G) [x,y] then [qB [x,y]] else []))) .un .un .un .un .un .un) (cR K G T m)=some ((.next,Xn a [x,y] (.d (.list ((early G).map Told.enc))) v' o1 o2 o3 o4 o5 o6),cR K G (T++Q) m'))
  (hn:∀k,9<=k->(ev k).E (Xn a [x,y] (.d (.list ((early G).map Told.enc))) v' o1 o2 o3 o4 o5 o6) (.blt .len [.v .iC]) (cR K G (T++Q) m')=some (iv rows.length,cR K G (T++Q) m')):Run 95 none .kH [DA,.ref a,lv [x,y]] (cR K G T m) (iv rows.length) (cR K G T m'):=by
 obtain ⟨u,a1,a2⟩:=RG hL hl
 have kd:=kS hL.di (k:=2) rfl
 have g (k:Int):=QR (k:=k) hL.di (.d (.list []))
 have c:∀k,55<=k->kL (ev k).E (Xn a [x,y] (.d (.list ((early G).map Told.enc))) .un .un .un .un .un .un .un) (.v .cK) (.n .cK) [.not (.call .dB [.v .cK,.v .Fp])] ((early G).map Told.enc) (cR K G T m)=some (((early G).filter λt=> !t.kept (vl [x,y])).map Told.enc,cR K G T m):=Gz (F:=Told.enc) (d:=Told.enc) (c:=λt=> !t.kept (vl [x,y])) (early G) λt q=>⟨_,rfl,λk i=>⟨kG (n:=55) [eC (hk t q (cR K G T m))] (by kernel_rfl) k i,kG (n:=55) [] (by kernel_rfl) k i⟩⟩
 have e:=nil_eq (((early G).filter λt=> !t.kept (vl [x,y])).map Told.enc) (cR K G T m)
 rw [Vb] at e
 have it:=aLb h2 h60 (cR K G T m)
 have sz:=AD K (G:=G) T m
 revert e h
 cases keeps (early G) [x,y]<;>exact λh e=>Run.cut (A:=Q) (B:=core K G++T) rfl [eN kd,eN kd,eP 8 (g (-1)),eN kd,eN kd,eP 8 (g 0),eP 2 a1,eN kd,eN kd,eP 8 (g 1),eP 2 a2,eK c,eP 3 e,eC sz,eI it,eF h,eE hn] (by kernel_rfl)
end
section
variable {X:Key->Int->Prop} {K:Kx} {G:GS} {T:List (Nat×O)} {m a:Nat} {kvs:List (Int×V)} {x y:Int}
theorem WV (g:Good X G) (h2:2<=G.n) (h60:G.n<=60) (hl:G.eV.length<=2000) (un:∀v v',iK G v->iK G v'->Agree 2 v v'->Agree G.n v v') (ti:∀i,2<i->i<=G.n->∀v v',PS G i v->PS G i v'->Agree 2 v v'->Agree (i - 2) v v') (hO:Ok T m) (hL:uL (cR K G T m) a kvs (xZ G)) (hx:inD (G.eG 0) x) (hy:inD (G.eG 1) y) {w:Bool} (hw:w=true↔∃v,iK G v/\Agree 2 v (vl [x,y])):∃m',m<=m'/\Run 95 none .kH [DA,.ref a,lv [x,y]] (cR K G T m) (iv ((bif w then 1 else 0:Nat):Int)) (cR K G T m'):=by
 have r0:=NZ g hx hy
 have e:(bif keeps (early G) [x,y] then [[x,y]] else []).map qB=bif keeps (early G) [x,y] then [qB [x,y]] else []:=by cases keeps (early G) [x,y]<;>rfl
 obtain ⟨Q,m',v',o1,o2,o3,o4,o5,o6,rows',r,h⟩:=OV (K:=K) (e:= .d (.list ((early G).map Told.enc))) g h60 ti (G.n - 2) 2 T m (.d (.list (bif keeps (early G) [x,y] then [qB [x,y]] else []))) .un .un .un .un .un .un _ (vG h2) (bM 2) r0 hO hL (.inl (congrArg (λl=>V.d (.list l)) e.symm))
 have l:=aDn g r.1 un hw
 have q:=PJ (rows:=rows'.map qB) h2 h60 hl hL (λt ht=> ?_) h (aDh r.2.1)
 ·rw [aI,l] at q
  exact ⟨m',r.2.2,q⟩
 ·have q:=Mg.1 ht
  have s:=g.sc t q.1
  have sm:∀z,In 2 z->small (vl [x,y] z)=true:=two_in (Se (g.dm 0 ⟨aW 0,fL.2 (bA (by decide) h2)⟩) hx) (Se (g.dm 1 ⟨by decide,fL.2 h2⟩) hy)
  exact AE s.1 λz m=>have i:In 2 z:=⟨(s.2 z m).1,q.2 z m⟩;⟨i,sm z i⟩
end
structure GD (r:Tr) (G G':GS):Prop where
 good:Good X0 G'
 vars:G'.vars=G.vars
 told:∀t,t∈G.eV->t∈G'.eV
 len:G'.eV.length<=G.eV.length+1
 sol:∀v,iK G' v↔iK G v/\r.at v=true
 run:∀K T m,Run 60 (some .func) .gA [mM,.d (.list [r.enc])] (cR K G T m) (.d .none) (cR K G' T m)
section
variable {G:GS} {t:Told} {r:Tr}
theorem Zx {v:Int->Int}:iK (G.gB t) v↔iK G v/\t.kept v=true:=⟨λs=>⟨⟨s.eG,λu m=>s.told u (aL _ m)⟩,s.told t (aQ _ (.head _))⟩,λs=>⟨s.1.eG,λu m=>(aV.1 m).elim (s.1.told u) (zD (p:=λt=>t.kept v=true) s.2 u)⟩⟩
theorem KV (g:Good X0 G) (o:t.ok) (h:∀x,x∈t.scope->In G.n x):Good X0 (G.gB t):=
 have p:Pre G (G.gB t):=⟨bM _,λY Y=>rfl,λu m=>aL _ m⟩
 ⟨g.dm,λu m=>(aV.1 m).elim (g.sc u) (zD (p:=λt=>t.ok/\∀x,x∈t.scope->In G.n x) ⟨o,h⟩ u),λk z m=>have c:=g.key k z m;⟨⟨c.1.1,c.1.2.mono p c.1.1⟩,c.2.imp id λc v s=>c v (Zx.1 s).1⟩⟩
theorem OE (g:Good X0 G) (o:t.ok) (h:∀x,x∈t.scope->In G.n x) (e:∀v,iK G v->(t.kept v=true↔r.at v=true)) (run:∀K T m,Run 60 (some .func) .gA [mM,.d (.list [r.enc])] (cR K G T m) (.d .none) (cR K (G.gB t) T m)):GD r G (G.gB t):=⟨KV g o h,rfl,λu m=>aL _ m,bT aN,λv=>Zx.trans (and_congr_right (e v)),run⟩
theorem aDt (g:Good X0 G) (ok:nR G r) (h60:G.n<=60) (hl:G.eV.length<10000):∃G',GD r G G':=by
 rcases r with ⟨_ | _⟩ | ⟨x,u⟩
 ·exact ⟨_,OE (t:= .clause [] []) g ⟨fJ _,λY m=>absurd m bN⟩ (λY m=>absurd m bN) (λv Y=>Bi) λK T m=>Gw false hl⟩
 ·exact ⟨G,g,rfl,λY m=>m,bJ _,λv=>(and_iff_left rfl).symm,λK T m=>Gw true hl⟩
 ·have s:(iQ [(x,u)]).scope=[x]:=by cases u<;>rfl
  refine ⟨_,OE (t:=iQ [(x,u)]) g ⟨by rw [s];exact aP rfl,λY m=>absurd m bN⟩ (λz m=>by rw [s] at m;rw [aC.1 m];exact ok.1) (λv s=>(Mn (l:=[(x,u)]) λk m=>by rw [aC.1 m];exact Tb (x:=x) ok s).trans ⟨λh=>h.elim λk q=>by rw [aC.1 q.1] at q;exact q.2,λh=>⟨(x,u),.head _,h⟩⟩) λK T m=>Ee (l:=[(x,u)]) (λk m m'=> ?_) (aP rfl) (zV _ _) (λk m=>by rw [aC.1 m];exact ok.1.mono (aB h60 (by decide))) hl⟩
  rw [aC.1 m] at m'
  have q:=(cL (aC.1 m')).2
  revert q;cases u<;>exact nofun
end
noncomputable abbrev Ic (sc cell rows lap one other way tur found told x y a c due:V):List (Nm×V):=[(.Ah,sc),(.iY,.ref 0),(.Cp,mM),(.nY,.ref 6),(.xD,cell),(.iC,rows),(.Nj,lap),(.dP,one),(.dO,other),(.pC,way),(.kV,tur),(.dE,found),(.cK,told),(.kN,x),(.tE,y),(.mI,a),(.Br,c),(.Nk,due)]
noncomputable abbrev aPt:Sx:= .gR (.cmp (.v .pC) [(.lt,.int 2)]) [
  .asg (.n .dE) (.gR (.cmp (.v .pC) [(.eq,.int 0)]) (.met (.v .Cp) .jC [.lst [.v .dP,.v .dO]]) (.met (.v .Cp) .Kb [.lst [.v .dP,.v .dO]]))] [
  .asg (.n .dE) (.gR (.cmp (.v .pC) [(.eq,.int 2)]) (.met (.v .Cp) .uH [.v .dP,.v .dO]) (.met (.v .Cp) .jC [.lst [.v .dP,.call .eL [.v .dO]]]))]
noncomputable def DD (w:Nat) (a c:Bool):Bool:=match w with
 | 0=>a&&c
 | 1=>a||c
 | 2=>a != c
 | _=>a&& !c
structure aPb (G:GS) (w:Nat) (p q r:Tr) (G':GS):Prop where
 run:∀ {sc cell rows lap tur told x y a c due:V} K T m,Ok T m->∃m',m<=m'/\∀k,105<=k->(ev k).B [aPt] (Ic sc cell rows lap (.d p.enc) (.d q.enc) (iv w) tur .un told x y a c due) (cR K G T m)=some ((.next,Ic sc cell rows lap (.d p.enc) (.d q.enc) (iv w) tur (.d r.enc) told x y a c due),cR K G' T m')
 step:Step X0 G G' 1
 ok:nR G' r
 eq:∀v,iK G' v->r.at v=DD w (p.at v) (q.at v)
section
variable {G:GS} {p q:Tr} {j w:Nat}
theorem aPr (p q:Tr):nb [p,q]<=3:=by cases p<;>cases q<;>exact aP rfl
theorem WB {p:Tr->Prop} {t:Tr} (h:p t):∀u,u∈[t]->p u:=λu m=>by rw [aC.1 m];exact h
theorem aPo (ha:nR G p) (hb:nR G q) (t:Tr) (m:t∈[p,q]):nR G t:=(aJ.1 m).elim (λe=>by rw [e];exact ha) (WB (p:=nR G) hb t)
theorem QU (g:Good X0 G) (R:nU G (j+1)) (ha:nR G p) (hb:nR G q) (hw:w<4):∃r G',aPb G w p q r G':=by
 rcases w with _ | _ | _ | _ | w
 ·obtain ⟨r,G',h⟩:=Tj g R (aPo ha hb) (aP rfl) (aPr p q)
  exact ⟨r,G',λK T m hO=>⟨_,aS m 1,qI [eC (h.run K T m hO)] (by kernel_rfl)⟩,h.step,h.ok,λv s=>(h.eq v s).trans (congrArg _ (hV _))⟩
 ·obtain ⟨r,G',h⟩:=aHa g R ha hb
  exact ⟨r,G',λK T m hO=>⟨_,aS m 1,qI [eC (h.run K T m hO)] (by kernel_rfl)⟩,h.step,h.ok,h.eq⟩
 ·obtain ⟨r,G',h⟩:=JL g R ha hb
  exact ⟨r,G',λK T m hO=>⟨_,bM m,qI [eC (h.run K T m hO)] (by kernel_rfl)⟩,h.step,h.ok,h.eq⟩
 ·obtain ⟨r,G',h⟩:=Tj g R (aPo ha hb.no) (aP rfl) (aPr p q.no)
  exact ⟨r,G',λK T m hO=>⟨_,aS m 1,qI [eC (fY q (cR K G T m)),eC (h.run K T m hO)] (by kernel_rfl)⟩,h.step,h.ok,λv s=>(h.eq v s).trans (congrArg (p.at v&& ·) ((hV _).trans Tr.xO))⟩
 ·exact absurd hw (fG.2 (fN 4 w))
end
noncomputable abbrev SF:List Sx:=[.asg (.s (.v .iY) (.int 0)) (.bin .mod (.bin .add (.bin .mul (.sub (.v .iY) (.int 0)) (.int 100003)) (.v .xD)) (.bin .pow (.int 10) (.int 120)))]
noncomputable abbrev BP (l:List aE):List (Nat×O):=[(6,.di []),(7,.list l)]
noncomputable abbrev aNu:List Ex:=[.str .Tu,.str .Qp,.str .s_eq,.str .Qo,.str .Qr,.str .Qq]
noncomputable abbrev aPw:List Sx:=[
 .qX [.n .iY,.n .Cp,.n .nY] [.zE [.int 1],.Lz,.Xg],
 .for (.n .xD) (.Wo (.v .Ah) none (some (.int 40))) SF,
 .ex (.met (.xN (.v .Cp) .fZ) .tF [.str .kN,.tup [.tup [.neg (.int 1),.int 1]]]),
 .ex (.met (.xN (.v .Cp) .fZ) .tF [.str .tE,.tup [.tup [.neg (.int 1),.int 0]]]),
 .asg (.n .iC) (.zE []),
 .for (.n .Nj) (.blt .Bl [.int 2]) [
  .ex (.met (.v .iC) .iI [.tup [.sub (.tup aNu) (.call .jJ [.v .iY,.int 6]),.call .qS [.v .iY,.cmp (.v .Nj) [(.eq,.int 0)]],.call .nO [.v .iY]]])]]
noncomputable def aHu:GS:=⟨[],[],[]⟩
noncomputable def Ud:GS:=⟨[(Nm.kN.str,[(-1,1)]),(Nm.tE.str,[(-1,0)])],[],[]⟩
noncomputable def aKl (z i:Int):Int:=(z*100003+i).fmod ((10:Int)^(120:Int).toNat)
structure Drawn (s:Sg) (t u:Tree):Prop where
 tok:∃A n,MI 200 90 t A n/\A<=6/\n<=2
 lf:Lf u
section
variable {z i:Int} {st:St} {s1 s2:Sg} {t1 t2 u1 u2:Tree} {sc:V}
theorem cells:∀ (is:List Int) (z:Int) (cell:V),∃z' cell',∀k,20<=k->forL (ev k).B (.n .xD) SF (is.map .int) (Ic sc cell .un .un .un .un .un .un .un .un .un .un .un .un .un) (cR ⟨z,.d .none⟩ aHu [(6,.di [])] 7)=some ((.next,Ic sc cell' .un .un .un .un .un .un .un .un .un .un .un .un .un),cR ⟨z',.d .none⟩ aHu [(6,.di [])] 7)
 | []=>λz cell=>⟨z,cell,λY Y=>rfl⟩
 | i::is=>λz cell=>by
  obtain ⟨z',cell',h⟩:=cells is (aKl z i) (iv i)
  exact ⟨z',cell',qU (b:=[(.xD,iv i)]) rfl (qI [eP 2 (vD (a:=z) (b:=100003) (st:=cR ⟨z,.d .none⟩ aHu [(6,.di [])] 7) (vT _))] (by kernel_rfl)) h⟩
theorem aJg (z:Int):∃s:Sg,∀st,itemOf (.d (.tuple [.str Nm.Tu.str,.str Nm.Qp.str,.str Nm.s_eq.str,.str Nm.Qo.str,.str Nm.Qr.str,.str Nm.Qq.str])) (iv (z.fmod 6)) st=some (.d s.enc,st):=by
 rcases six (Fv z (k:=6) (by decide)) with ((e | e) | e | e) | e | e
 ·rw [e];exact ⟨.le,λst=>rfl⟩
 ·rw [e];exact ⟨.lt,λst=>rfl⟩
 ·rw [e];exact ⟨.eq,λst=>rfl⟩
 ·rw [e];exact ⟨.ne,λst=>rfl⟩
 ·rw [e];exact ⟨.ge,λst=>rfl⟩
 ·rw [e];exact ⟨.gt,λst=>rfl⟩
structure aHo (w:Bool) (z z':Int) (s:Sg) (t u:Tree) (z1 z2:Int):Prop where
 sg:∀st,itemOf (.d (.tuple [.str Nm.Tu.str,.str Nm.Qp.str,.str Nm.s_eq.str,.str Nm.Qo.str,.str Nm.Qr.str,.str Nm.Qq.str])) (iv (z.fmod 6)) st=some (.d s.enc,st)
 hz:z1=z.fdiv 6
 tree:∀G T m,Run 90 none .qS [.ref 0,bv w] (cR ⟨z1,.d .none⟩ G T m) (.d t.enc) (cR ⟨z2,.d .none⟩ G T m)
 leaf:∀G T m,Run 40 none .nO [.ref 0] (cR ⟨z2,.d .none⟩ G T m) (.d u.enc) (cR ⟨z',.d .none⟩ G T m)
 ok:Drawn s t u
theorem aAp (w:Bool) (z:Int):∃z' s t u z1 z2,aHo w z z' s t u z1 z2:=by
 obtain ⟨s,hs⟩:=aJg z
 cases w with
 | true=>
  obtain ⟨t,z2,A,n,r,a,b⟩:=YL (z.fdiv 6) (.d .none)
  obtain ⟨u,z',l⟩:=Fu z2 (.d .none)
  exact ⟨z',s,t,u,_,z2,hs,rfl,r.run,l.run,⟨A,n,r.ok,a,b⟩,l.lf⟩
 | false=>
  obtain ⟨t,z2,r⟩:=HI (z.fdiv 6) (.d .none)
  obtain ⟨u,z',l⟩:=Fu z2 (.d .none)
  exact ⟨z',s,t,u,_,z2,hs,rfl,λG T m=>(r.run G T m).up (aP rfl),l.run,⟨4,1,r.ok.up (aP rfl) (aP rfl),by decide,by decide⟩,l.lf⟩
theorem KY {is:List Int} {z z' z'' a1 a2 b1 b2:Int} {cell:V} (h:∀k,20<=k->forL (ev k).B (.n .xD) SF (List.take (40 - 0) (List.drop 0 (is.map .int))) (Ic (.d (.list (is.map .int))) .un .un .un .un .un .un .un .un .un .un .un .un .un .un) (cR ⟨1,.d .none⟩ aHu [(6,.di [])] 7)=some ((.next,Ic (.d (.list (is.map .int))) cell .un .un .un .un .un .un .un .un .un .un .un .un .un),cR ⟨z,.d .none⟩ aHu [(6,.di [])] 7))
  (r1:aHo true z z' s1 t1 u1 a1 a2) (r2:aHo false z' z'' s2 t2 u2 b1 b2):∀k,100<=k->(ev k).B aPw ((.Ah,.d (.list (is.map .int)))::[Nm.iY,.Cp,.nY,.xD,.iC,.Nj,.dP,.dO,.pC,.kV,.dE,.cK,.kN,.tE,.mI,.Br,.Nk].map λx=>(x,V.un)) ⟨[],0⟩=some ((.next,Ic (.d (.list (is.map .int))) cell (.ref 7) (iv 1) .un .un .un .un .un .un .un .un .un .un .un),cR ⟨z'',.d .none⟩ Ud (BP [Nd s1 t1 u1,Nd s2 t2 u2]) 8):=by
 have n1:=Ws ⟨z,.d .none⟩ (G:=aHu) (D:=[(-1,1)]) [(6,.di [])] 7 Nm.kN.str (by decide)
 have n2:=Ws ⟨z,.d .none⟩ (G:=⟨[(Nm.kN.str,[(-1,1)])],[],[]⟩) (D:=[(-1,0)]) [(6,.di [])] 7 Nm.tE.str (by decide)
 obtain ⟨g1,rfl,h1,l1,_⟩:=r1
 obtain ⟨g2,rfl,h2,l2,_⟩:=r2
 have k1:=uG (k:=6) rfl z (.d .none) Ud (BP []) 8
 have k2:=uG (k:=6) rfl z' (.d .none) Ud (BP [Nd s1 t1 u1]) 8
 exact qI [eF h,eC n1,eC n2,eC k1,eP 4 (g1 (cR ⟨z.fdiv 6,.d .none⟩ Ud (BP []) 8)),eC (h1 Ud (BP []) 8),eC (l1 Ud (BP []) 8),eC k2,eP 4 (g2 (cR ⟨z'.fdiv 6,.d .none⟩ Ud (BP [Nd s1 t1 u1]) 8)),eC (h2 Ud (BP [Nd s1 t1 u1]) 8),eC (l2 Ud (BP [Nd s1 t1 u1]) 8)] (by kernel_rfl)
end
noncomputable abbrev aPv:List Sx:=[
 .asg (.t [.n .dP,.n .dO]) (.comp (.call .pH [.v .Cp,.v .gW]) (.n .gW) (.v .iC) []),
 .qX [.n .pC,.n .kV] [.call .jJ [.v .iY,.int 4],.cmp (.call .jJ [.v .iY,.int 2]) [(.eq,.int 1)]]]
noncomputable abbrev aPu:List Sx:=[.ex (.met (.v .Cp) .gA [.lst [.gR (.v .kV) (.call .eL [.v .dE]) (.v .dE)]])]
section
variable {G G1 G2:GS} {z:Int} {m m1 m2:Nat} {r1 r2 p q x:aE} {sc cell lap rows one other way a b c d e f:V} {K:Kx} {T:List (Nat×O)} {r:Tr}
noncomputable abbrev aHw (l:List aE):List (Nat×O):=[(6,.di []),(7,.sJ l)]
theorem WS (h1:Run 205 none .pH [mM,.d r1] (cR ⟨z,.d .none⟩ G (aHw [r1,r2]) m) (.d p) (cR ⟨z,.d .none⟩ G1 (aHw [r1,r2]) m1)) (h2:Run 205 none .pH [mM,.d r2] (cR ⟨z,.d .none⟩ G1 (aHw [r1,r2]) m1) (.d q) (cR ⟨z,.d .none⟩ G2 (aHw [r1,r2]) m2)):
  ∀k,210<=k->(ev k).B aPv (Ic sc cell (.ref 7) lap .un .un .un .un a b c d e f .un) (cR ⟨z,.d .none⟩ G (BP [r1,r2]) m)=some ((.next,Ic sc cell (.ref 7) lap (.d p) (.d q) (iv (z.fmod 4)) (bv ((z.fdiv 4).fmod 2==1)) a b c d e f .un),cR ⟨(z.fdiv 4).fdiv 2,.d .none⟩ G2 (BP [r1,r2]) m2):=
 have k1:=uG (k:=4) rfl z (.d .none) G2 (BP [r1,r2]) m2
 have k2:=uG (k:=2) rfl (z.fdiv 4) (.d .none) G2 (BP [r1,r2]) m2
 qI [eC h1,eC h2,eC k1,eC k2] (by kernel_rfl)
theorem VN (u:Bool) (h:Run 60 (some .func) .gA [mM,.d (.list [(bif u then r.no else r).enc])] (cR K G T m) (.d .none) (cR K G1 T m)):∀k,65<=k->(ev k).B aPu (Ic sc cell rows lap one other way (bv u) (.d r.enc) a b c d e f) (cR K G T m)=some ((.next,Ic sc cell rows lap one other way (bv u) (.d r.enc) a b c d e f),cR K G1 T m):=by
 cases u with
 | true=>exact qI [eC (fY r (cR K G T m)),eC h] (by kernel_rfl)
 | false=>exact qI [eC h] (by kernel_rfl)
end
theorem Ur {X:Dg} {r:List Sx}:∀ {l:List Sx} {ρ ρ':List (Nm×V)} {st st':St},Jo X l ρ st=some ((.next,ρ'),st')->Jo X (l++r) ρ st=Jo X r ρ' st'
 | [],ρ,ρ',st,st',h=>by cases h;rfl
 | s::l,ρ,ρ',st,st',h=>cE h λp s1 e1 h=>by
  refine Eq.trans (b:=(match p.1 with | .next=>Jo X (l++r) p.2 | .ret v=>pure (.ret v,p.2):M (Fl×List (Nm×V))) s1) ?_ ?_
  ·show M.bind (zZ X s ρ) _ st=_
   unfold M.bind;rw [e1];rfl
  ·revert h
   cases p.1 with
   | next=>exact λh=>Ur h
   | ret v=>exact λh=>nomatch h
noncomputable abbrev HU:List Sx:=[.ex (.met (.met (.v .nY) .kQ [.blt .Oi [.bin .add (.tup [.neg (.int 1)]) (.call .yM [.v .cK])],.zE []]) .iI [.v .cK])]
noncomputable def lst (K:Kx) (G:GS) (o4:O) (kvs:List (Int×V)) (o7:O) (Q:List (Nat×O)) (m:Nat):St:=⟨lY (core K G) 4 o4++[(6,.di kvs),(7,o7)]++Q,m⟩
noncomputable def FZ (L:List Told) (k:Int):List Told:=L.filter λt=>top t==k
structure vN (L:List Told) (kvs:List (Int×V)) (Q:List (Nat×O)) (m:Nat):Prop where
 len:kvs.length<=L.length
 lo:∀p,p∈Q->8<=p.1/\p.1<m
 m8:8<=m
 get:∀k,(fF kvs k=none/\FZ L k=[])\/∃r,fF kvs k=some (.ref r)/\mC Q r=some (.list ((FZ L k).map Told.enc))
 inj:∀k k' v,fF kvs k=some v->fF kvs k'=some v->k=k'
section
variable {K:Kx} {G:GS} {o4 o7 o o':O} {kvs:List (Int×V)} {Q M:List (Nat×O)} {m r r':Nat} {L:List Told} {t:Told} {st:St} {v:V} {k k':Int}
theorem HR:∀ {A:List (Nat×O)},(∀p,p∈A->p.1<8)->8<=r->mC (A++Q) r=mC Q r/\∀o,lY (A++Q) r o=A++lY Q r o
 | [],_,_=>⟨rfl,λY=>rfl⟩
 | (k,p)::A,h,hr=>
  have e:k≠r:=λe=>fG.2 hr (e▸h (k,p) (.head _))
  have i:=HR (A:=A) (λp m=>h p (.tail _ m)) hr
  ⟨(if_neg e).trans i.1,λo=>(if_neg e).trans (congrArg ((k,p):: ·) (i.2 o))⟩
theorem HQ (h:r'≠r):∀M:List (Nat×O),mC (lY M r o) r'=mC M r'
 | []=>rfl
 | (k,p)::M=>by
  by_cases e:k=r
  ·rw [show lY ((k,p)::M) r o=(k,o)::M from if_pos e]
   exact (if_neg λe'=>h (e'.symm.trans e)).trans (if_neg λe'=>h (e'.symm.trans e)).symm
  ·rw [show lY ((k,p)::M) r o=(k,p)::lY M r o from if_neg e]
   show (if k=r' then some p else mC (lY M r o) r')=if k=r' then some p else mC M r'
   rw [HQ h M]
theorem Zz:∀ (M:List (Nat×O)),(lY M r o).map bY=M.map bY
 | []=>rfl
 | (k,p)::M=>by
  by_cases e:k=r
  ·rw [show lY ((k,p)::M) r o=(k,o)::M from if_pos e];rfl
  ·rw [show lY ((k,p)::M) r o=(k,p)::lY M r o from if_neg e];exact congrArg (k:: ·) (Zz M)
theorem EC (h:8<=r):mC (lst K G o4 kvs o7 Q m).objs r=mC Q r/\∀o,lY (lst K G o4 kvs o7 Q m).objs r o=(lst K G o4 kvs o7 (lY Q r o) m).objs:=HR (A:=lY (core K G) 4 o4++[((6:Nat),O.di kvs),(7,o7)]) (Q:=Q) (λp q=>of_decide_eq_true (dH.1 (show (lY (core K G) 4 o4++[((6:Nat),O.di kvs),(7,o7)]).all (λp=>decide (p.1<8))=true from rfl) p q)) h
theorem RK:fF (kvs++[(k,v)]) k'=(fF kvs k').or (bif k==k' then some v else none):=by
 unfold fF
 rw [Jb]
 cases kvs.find? λp=>p.1==k' with
 | some p=>rfl
 | none=>rw [Px,eB];cases k==k'<;>rfl
theorem IY (L:List Told) (t:Told) (k:Int):FZ (L++[t]) k=FZ L k++bif top t==k then [t] else []:=by
 unfold FZ
 rw [Hj,kX]
 cases top t==k<;>rfl
theorem aCy (a:At st 6 (.di kvs)) (h:fF kvs k=some v):method (.ref 6) .kQ [iv k,.ref m] st=some (v,st):=aY (a:=(iv k,.ref m)) rfl (aY (a:=k) rfl (aY (aY a.get rfl) (by rw [h];rfl)))
theorem aCz {A:List (Nat×O)} (a:At st 6 (.di kvs)) (h:fF kvs k=none) (l:kvs.length<bW) (p:Um st 6 (.di (kvs++[(k,.ref m)])) A):method (.ref 6) .kQ [iv k,.ref m] st=some (.ref m,⟨A,st.next⟩):=aY (a:=(iv k,.ref m)) rfl (aY (a:=k) rfl (aY (aY a.get rfl) (by
 rw [h]
 exact aY (a:=()) (by rw [decide_eq_true l];rfl) (congrArg (λl=>some (V.ref m,St.mk l st.next)) p))))
theorem WU (t:Told) (st:St):builtin .Oi [.d (qV ([-1]++t.scope))] st=some (iv (top t),st):=aY (a:=((-1)::t.scope).map .int) rfl (aY (a:=(-1)::t.scope) (by rw [Pd];rfl) rfl)
end
section
variable {K:Kx} {G:GS} {o4 o7:O} {kvs:List (Int×V)} {Q M:List (Nat×O)} {m r r':Nat} {L:List Told} {t:Told} {st:St} {v:V} {k k':Int}
theorem cat_1 (h:t.ok) (st:St):binOp .add (.d (qV [-1])) (.d (qV t.scope)) st=some (.d (qV ([-1]++t.scope)),st):=by
 unfold qV;rw [cS]
 exact Pg _ _ st (by rw [aI,aI];exact aB (bE h.1 1) (by decide))
theorem SW (h:(top t==k)=true):(FZ (L++[t]) k).map Told.enc=(FZ L k).map Told.enc++[t.enc]:=by rw [IY,h,cS];rfl
theorem SV (h:(top t==k)=false):FZ (L++[t]) k=FZ L k:=by rw [IY,h];exact cN _
theorem Ke (I:vN L kvs Q m) {o:O} (h:mC Q r=some o):8<=r/\r<m:=I.lo _ (Ft h)
theorem vN.one (I:vN L kvs Q m) (hk:fF kvs (top t)=some (.ref r)) (hr:mC Q r=some (.list ((FZ L (top t)).map Told.enc))):vN (L++[t]) kvs (lY (Q++[(m,.list [])]) r (.list ((FZ L (top t)).map Told.enc++[t.enc]))) (m+1) where
 len:=by rw [aN];exact gK I.len
 lo p q:=by
  have q:p.1∈(lY (Q++[(m,.list [])]) r (.list ((FZ L (top t)).map Told.enc++[t.enc]))).map bY:=aT.2 ⟨p,q,rfl⟩
  rw [Zz] at q
  obtain ⟨p',q,e⟩:=aT.1 q
  rw [<-e]
  exact (aV.1 q).elim (λq=>⟨(I.lo p' q).1,gZ (I.lo p' q).2⟩) λq=>by rw [aC.1 q];exact ⟨I.m8,cI m⟩
 m8:=gK I.m8
 get k:=by
  refine tf (top t==k) (λe=> ?_) λe=> ?_
  ·rw [SW e,<-eq_of_beq e]
   exact .inr ⟨r,hk,(DO (sF hr)).1⟩
  ·rw [SV e]
   refine (I.get k).imp id λh=>h.imp λr' h=>⟨h.1,?_⟩
   have ne:r'≠r:=λe'=>lH (e.symm.trans (beq_iff_eq.2 (I.inj _ _ _ hk (e'▸h.1))))
   rw [HQ ne]
   exact sF h.2
 inj:=I.inj
theorem vN.two (I:vN L kvs Q m) (hk:fF kvs (top t)=none):vN (L++[t]) (kvs++[(top t,.ref m)]) (Q++[(m,.list [t.enc])]) (m+1) where
 len:=by rw [aN,aN];exact bK I.len
 lo p q:=(aV.1 q).elim (λq=>⟨(I.lo p q).1,gZ (I.lo p q).2⟩) λq=>by rw [aC.1 q];exact ⟨I.m8,cI m⟩
 m8:=gK I.m8
 get k:=by
  rw [RK]
  refine tf (top t==k) (λe=> ?_) λe=> ?_
  ·rw [SW e,e,<-eq_of_beq e,hk]
   have z:FZ L (top t)=[]:=(I.get (top t)).elim (·.2) λh=>h.elim λr h=>nomatch hk.symm.trans h.1
   rw [z]
   exact .inr ⟨m,rfl,(mJ (M:=[]) Q λp q=>(I.lo p q).2).1⟩
  ·rw [SV e,e,show ((fF kvs k).or (bif false then some (V.ref m) else none))=fF kvs k from Option.or_none]
   exact (I.get k).imp id λh=>h.imp λr' h=>⟨h.1,sF h.2⟩
 inj k k' v h h':=by
  have old {k} (h:fF kvs k=some (.ref m)):False:=(I.get k).elim (λq=>nomatch q.1.symm.trans h) λq=>q.elim λr q=>by
   have e:=q.1.symm.trans h
   cases e
   exact qG _ (Ke I q.2).2
  have or_ {k} {v} (h:fF (kvs++[(top t,.ref m)]) k=some v):fF kvs k=some v\/top t=k/\v= .ref m:=by
   rw [RK] at h
   refine (Option.or_eq_some_iff.1 h).imp id λh=> ?_
   revert h
   exact tf (top t==k) (λe h=>by rw [e] at h;exact ⟨eq_of_beq e,(aF h.2).symm⟩) λe h=>by rw [e] at h;exact nomatch h.2
  rcases or_ h with a | a<;>rcases or_ h' with b | b
  ·exact I.inj _ _ _ a b
  ·exact (old (b.2▸a)).elim
  ·exact (old (a.2▸b)).elim
  ·exact a.1.symm.trans b.1
end
section
variable {K:Kx} {G:GS} {o4 o7:O} {kvs:List (Int×V)} {Q M:List (Nat×O)} {m r r':Nat} {L:List Told} {t:Told} {sc cell rows lap one other way tur found told x y a c due:V}
theorem ZM (L:List Told) (k:Int) (h:L.length<=10000):((FZ L k).map Told.enc).length<bW:=by rw [aI];exact aX (aB (iZ _ _) h) (by decide)
theorem KM (I:vN L kvs Q m) (ok:t.ok) (l:L.length<=10000):∃kvs' Q',vN (L++[t]) kvs' Q' (m+1)/\∀k,60<=k->(ev k).B HU (Ic sc cell rows lap one other way tur found (.d t.enc) x y a c due) (lst K G o4 kvs o7 Q m)=some ((.next,Ic sc cell rows lap one other way tur found (.d t.enc) x y a c due),lst K G o4 kvs' o7 Q' (m+1)):=by
 have e1:=KD ok (lst K G o4 kvs o7 Q m)
 have e2:=cat_1 ok (lst K G o4 kvs o7 Q m)
 have e3:=WU t (lst K G o4 kvs o7 Q m)
 rcases I.get (top t) with ⟨h,_⟩ | ⟨r,h,hr⟩
 ·have e4:=aCz (m:=m) (st:=lst K G o4 kvs o7 (Q++[(m,O.list [])]) (m+1)) (A:=(lst K G o4 (kvs++[(top t,V.ref m)]) o7 (Q++[(m,O.list [])]) (m+1)).objs) rfl h (aX I.len (aX l (by decide))) rfl
  have f:=mJ (r:=m) (o:= .list []) (M:=[]) Q λp q=>(I.lo p q).2
  have hh:=EC (K:=K) (G:=G) (o4:=o4) (o7:=o7) (kvs:=kvs++[(top t,.ref m)]) (Q:=Q++[(m,.list [])]) (m:=m+1) I.m8
  have aR:At (lst K G o4 (kvs++[(top t,V.ref m)]) o7 (Q++[(m,O.list [])]) (m+1)) m (.list []):=hh.1.trans f.1
  have kd:=kS aR (k:=1) rfl
  have e7:=pR (x:=t.enc) (L:=(lst K G o4 (kvs++[(top t,V.ref m)]) o7 (Q++[(m,O.list [t.enc])]) (m+1)).objs) aR (by decide) ((hh.2 _).trans (congrArg (λq=>(lst K G o4 (kvs++[(top t,V.ref m)]) o7 q (m+1)).objs) (f.2 (.list [t.enc]))))
  exact ⟨_,_,I.two h,qI [eC e1,eP 2 e2,eP 7 e3,eP 8 e4,eN kd,eN kd,eP 8 e7] (by kernel_rfl)⟩
 ·have e4:=aCy (m:=m) (st:=lst K G o4 kvs o7 (Q++[(m,O.list [])]) (m+1)) rfl h
  have hh:=EC (K:=K) (G:=G) (o4:=o4) (o7:=o7) (kvs:=kvs) (Q:=Q++[(m,.list [])]) (m:=m+1) (Ke I hr).1
  have aR:At (lst K G o4 kvs o7 (Q++[(m,O.list [])]) (m+1)) r (.list ((FZ L (top t)).map Told.enc)):=hh.1.trans (sF hr)
  have kd:=kS aR (k:=1) rfl
  have e7:=pR (x:=t.enc) aR (ZM L _ l) (hh.2 _)
  exact ⟨_,_,I.one h hr,qI [eC e1,eP 2 e2,eP 7 e3,eP 8 e4,eN kd,eN kd,eP 8 e7] (by kernel_rfl)⟩
theorem Vk:∀ (M L:List Told) (kvs:List (Int×V)) (Q:List (Nat×O)) (m:Nat) (told:V),vN L kvs Q m->(∀t,t∈M->t.ok)->L.length+M.length<=10000->∃kvs' Q' m' told',vN (L++M) kvs' Q' m'/\∀k,60<=k->forL (ev k).B (.n .cK) HU (M.map Told.enc) (Ic sc cell rows lap one other way tur found told x y a c due) (lst K G o4 kvs o7 Q m)=some ((.next,Ic sc cell rows lap one other way tur found told' x y a c due),lst K G o4 kvs' o7 Q' m')
 | []=>λL kvs Q m told I Y Y=>⟨kvs,Q,m,told,by rw [cN];exact I,λY Y=>rfl⟩
 | t::M=>λL kvs Q m told I ok l=>by
  obtain ⟨kvs1,Q1,I1,h⟩:=KM (K:=K) (G:=G) (o4:=o4) (o7:=o7) (sc:=sc) (cell:=cell) (rows:=rows) (lap:=lap) (one:=one) (other:=other) (way:=way) (tur:=tur) (found:=found) (x:=x) (y:=y) (a:=a) (c:=c) (due:=due) I (ok t (.head _)) (aB (aS _ _) l)
  obtain ⟨kvs2,Q2,m2,told2,I2,h2⟩:=Vk M (L++[t]) kvs1 Q1 (m+1) (.d t.enc) I1 (λu q=>ok u (.tail _ q)) (by rw [aN,bL,List.length_singleton,dQ 1];exact l)
  exact ⟨kvs2,Q2,m2,told2,by rw [bU] at I2;exact I2,qU (b:=[(.cK,.d t.enc)]) rfl h h2⟩
end
noncomputable abbrev aLp:Ex:= .tup [.and [.v .mI,.v .Br],.or [.v .mI,.v .Br],.cmp (.v .mI) [(.ne,.v .Br)],.and [.v .mI,.not (.v .Br)]]
noncomputable abbrev aFs:Ex:= .cmp (.sub aLp (.v .pC)) [(.ne,.v .kV)]
noncomputable abbrev QI:List Sx:=[
   .asg (.t [.n .mI,.n .Br]) (.comp (.call .mB [.v .gW,.v .kN,.v .tE]) (.n .gW) (.v .iC) []),
   .asg (.n .Nk) aFs,
   .gR (.cmp (.call .kH [.xN (.v .Cp) .fZ,.v .nY,.lst [.v .kN,.v .tE]]) [(.ne,.blt .int [.v .Nk])]) [
    .ret (some (.bool false))] []]
noncomputable def tS (K:Kx) (G:GS) (kvs:List (Int×V)) (r1 r2:aE) (Q:List (Nat×O)) (m:Nat):St:=cR K G ((6,.di kvs)::(7,.list [r1,r2])::Q) m
section
variable {K:Kx} {G:GS} {kvs:List (Int×V)} {r1 r2:aE} {Q:List (Nat×O)} {m m' w:Nat} {A C D t:Bool} {x y:Int} {st:St} {sc cell rows lap one other way tur found told x0 y0 a c due:V}
theorem YE (A C:Bool):∀k,20<=k->(ev k).E (Ic sc cell rows lap one other way tur found told x0 y0 (bv A) (bv C) due) aLp st=some (.d (.tuple [.bool (A&&C),.bool (A||C),.bool (A != C),.bool (A&& !C)]),st):=by
 cases A<;>cases C<;>exact kG [] (by kernel_rfl)
theorem YF (hw:w<4):∀k,30<=k->(ev k).E (Ic sc cell rows lap one other (iv w) (bv t) found told x0 y0 (bv A) (bv C) due) aFs st=some (bv (DD w A C != t),st):=λk hk=>by
 obtain ⟨k,rfl⟩:=yY (aB (show 3<=30 from aP rfl) hk)
 refine aY (a:=bv (DD w A C)) (aY (YE A C (k+1) (Nat.le_of_add_le_add_right (b:=2) (aB (aP rfl) hk))) (aY (a:=iv w) rfl ?_)) (aY (a:=bv t) rfl (aY (a:=bv (DD w A C != t)) rfl rfl))
 rcases w with _ | _ | _ | _ | w
 ·rfl
 ·rfl
 ·rfl
 ·rfl
 ·exact absurd hw (fG.2 (fN 4 w))
theorem UJ (s1:gS 95 .mB [.d r1,iv x,iv y] (bv A)) (s2:gS 95 .mB [.d r2,iv x,iv y] (bv C)) (hd:∀k,30<=k->(ev k).E (Ic sc cell (.ref 7) lap one other way tur found told (iv x) (iv y) (bv A) (bv C) due) aFs (tS K G kvs r1 r2 Q m)=some (bv D,tS K G kvs r1 r2 Q m)) (hm:Run 95 none .kH [DA,.ref 6,lv [x,y]] (tS K G kvs r1 r2 Q m) (iv ((bif D then 1 else 0:Nat):Int)) (tS K G kvs r1 r2 Q m')):
  ∀k,105<=k->(ev k).B QI (Ic sc cell (.ref 7) lap one other way tur found told (iv x) (iv y) a c due) (tS K G kvs r1 r2 Q m)=some ((.next,Ic sc cell (.ref 7) lap one other way tur found told (iv x) (iv y) (bv A) (bv C) (bv D)),tS K G kvs r1 r2 Q m'):=by
 have e1:=s1 (cR K G ((6,.di kvs)::(7,.sJ [r1,r2])::Q) m)
 have e2:=s2 (cR K G ((6,.di kvs)::(7,.sJ [r1,r2])::Q) m)
 cases D<;>exact qI [eC e1,eC e2,eE hd,eC hm] (by kernel_rfl)
noncomputable def aHh (K:Kx) (G:GS) (kvs:List (Int×V)) (r1 r2:aE) (Q:List (Nat×O)) (w:Nat) (t:Bool) (m0:Nat) (x y:Int):Prop:=∃A C,gS 95 .mB [.d r1,iv x,iv y] (bv A)/\gS 95 .mB [.d r2,iv x,iv y] (bv C)/\
 ∀m,m0<=m->∃m',m<=m'/\Run 95 none .kH [DA,.ref 6,lv [x,y]] (tS K G kvs r1 r2 Q m) (iv ((bif (DD w A C != t) then 1 else 0:Nat):Int)) (tS K G kvs r1 r2 Q m')
theorem MM {m0:Nat} (hw:w<4):∀ (ys:List Int) (m:Nat) (y0 a c due:V),(∀y,y∈ys->aHh K G kvs r1 r2 Q w t m0 x y)->m0<=m->∃m' y1 a1 c1 due1,m<=m'/\∀k,105<=k->forL (ev k).B (.n .tE) QI (ys.map .int) (Ic sc cell (.ref 7) lap one other (iv w) (bv t) found told (iv x) y0 a c due) (tS K G kvs r1 r2 Q m)=some ((.next,Ic sc cell (.ref 7) lap one other (iv w) (bv t) found told (iv x) y1 a1 c1 due1),tS K G kvs r1 r2 Q m')
 | []=>λm y0 a c due Y Y=>⟨m,y0,a,c,due,bM m,λY Y=>rfl⟩
 | y::ys=>λm y0 a c due h hm=>by
  obtain ⟨A,C,s1,s2,mw⟩:=h y (.head _)
  obtain ⟨m1,l1,q⟩:=mw m hm
  obtain ⟨m',y1,a1,c1,d1,l,i⟩:=MM hw ys m1 (iv y) (bv A) (bv C) (bv (DD w A C != t)) (λy q=>h y (.tail _ q)) (aB hm l1)
  exact ⟨m',y1,a1,c1,d1,aB l1 l,qU (b:=[(.tE,iv y)]) rfl (UJ s1 s2 (YF hw) q) i⟩
theorem MP {m0:Nat} (hw:w<4):∀ (xs:List Int) (m:Nat) (x0 y0 a c due:V),(∀x,x∈xs->∀y,y∈[-1,0]->aHh K G kvs r1 r2 Q w t m0 x y)->m0<=m->∃m' x1 y1 a1 c1 due1,∀k,110<=k->forL (ev k).B (.n .kN) [.for (.n .tE) (.tup [.neg (.int 1),.int 0]) QI] (xs.map .int) (Ic sc cell (.ref 7) lap one other (iv w) (bv t) found told x0 y0 a c due) (tS K G kvs r1 r2 Q m)=some ((.next,Ic sc cell (.ref 7) lap one other (iv w) (bv t) found told x1 y1 a1 c1 due1),tS K G kvs r1 r2 Q m')
 | []=>λm x0 y0 a c due Y Y=>⟨m,x0,y0,a,c,due,λY Y=>rfl⟩
 | x::xs=>λm x0 y0 a c due h hm=>by
  obtain ⟨m1,y1,a1,c1,d1,l1,q⟩:=MM (sc:=sc) (cell:=cell) (lap:=lap) (one:=one) (other:=other) (found:=found) (told:=told) hw [-1,0] m y0 a c due (h x (.head _)) hm
  obtain ⟨m',x2,y2,a2,c2,d2,i⟩:=MP hw xs m1 (iv x) y1 a1 c1 d1 (λx q=>h x (.tail _ q)) (aB hm l1)
  exact ⟨m',x2,y2,a2,c2,d2,qU (b:=[(.kN,iv x)]) rfl (qI [eF q] (by kernel_rfl)) i⟩
end
section
variable {G G1 G2 G3 G4:GS} {w:Nat} {t:Bool} {r:Tr} {x y:Int} {v v':Int->Int} {K:Kx} {kvs:List (Int×V)} {Q:List (Nat×O)} {m:Nat} {L:List Told} {r1 r2:aE}
theorem MN (hx:x∈[-1,0,1]) (hy:y∈[-1,0]):(-1<=x/\x<=1)/\ -1<=y/\y<=0:=by
 have a:∀x:Int,x∈[-1,0,1]-> -1<=x/\x<=1:=by decide
 have b:∀y:Int,y∈[-1,0]-> -1<=y/\y<=0:=by decide
 exact ⟨a x hx,b y hy⟩
theorem good0:Good X0 Ud:=⟨two_in (P:=λz=>oQ (Ud.eG z)) (Hx (by decide) (by decide) (by decide)) (Hx (by decide) (by decide) (by decide)),λt m=>absurd m bN,λk z m=>absurd m bN⟩
theorem aCv (hx:x∈[-1,0,1]) (hy:y∈[-1,0]):iK Ud (vl [x,y]):=have q:=MN hx hy;⟨two_in (P:=λz=>inD (Ud.eG z) (vl [x,y] z)) (tC.2 q.1) (tC.2 q.2),λt m=>absurd m bN⟩
theorem aPg:Xy Ud:=⟨⟨⟨aW 0,by decide⟩,by decide⟩,⟨by decide,by decide⟩,by decide⟩
theorem Uw (q:GD r G3 G4):G4.n=G3.n/\∀x,G4.eG x=G3.eG x:=⟨congrArg oW q.vars,λx=>by unfold GS.eG;rw [q.vars]⟩
theorem aDr (e:Ext Ud G3) (q:GD r G3 G4) (s:iK G4 v) (s':iK G4 v') (a:Agree 2 v v'):Agree G4.n v v':=by rw [(Uw q).1];exact e.un v v' ((q.sol v).1 s).1 ((q.sol v').1 s').1 a
theorem aDs (e:Ext Ud G3) (q:GD r G3 G4) (i:Nat) (h:2<i) (h':i<=G4.n) (v v':Int->Int) (s:PS G4 i v) (s':PS G4 i v') (a:Agree 2 v v'):Agree (i - 2) v v':=by
 rw [(Uw q).1] at h'
 have up {v} (s:PS G4 i v):PS G3 i v:=⟨λx hx=>by rw [<-(Uw q).2];exact s.eG x hx,λt m=>s.told t (q.told t m)⟩
 exact e.ti i h h' v v' (up s) (up s') a
theorem OD (e:Ext Ud G3) (q:GD r G3 G4) (hx:x∈[-1,0,1]) (hy:y∈[-1,0]) {d:Bool} (h:∀v,iK G3 v->v 0=x->v 1=y->r.at v=d):d=true↔∃v,iK G4 v/\Agree 2 v (vl [x,y]):=by
 refine ⟨λhd=> ?_,λk=>k.elim λv s=> ?_⟩
 ·obtain ⟨v,s,a⟩:=e.ex _ (aCv hx hy)
  have b:Agree 2 v (vl [x,y]):=λz i=>(a z i).symm
  exact ⟨v,(q.sol v).2 ⟨s,(h v s (b 0 ⟨aW 0,by decide⟩) (b 1 ⟨by decide,by decide⟩)).trans hd⟩,b⟩
 ·have u:=(q.sol v).1 s.1
  exact (h v u.1 (s.2 0 ⟨aW 0,by decide⟩) (s.2 1 ⟨by decide,by decide⟩)).symm.trans u.2
theorem vN.ok (I:vN L kvs Q m) {o:O}:Ok ((6,.di kvs)::(7,o)::Q) m:=⟨λp h=>(aJ.1 h).elim (λe=>by rw [e];exact bA (show 6<8 by decide) I.m8) λh=>(aJ.1 h).elim (λe=>by rw [e];exact bA (show 7<8 by decide) I.m8) λh=>(I.lo p h).2,aB (by decide) I.m8⟩
theorem vN.row (I:vN G.eV kvs Q m) (m':Nat):uL (tS K G kvs r1 r2 Q m') 6 kvs (xZ G):=⟨rfl,λk=>(I.get k).elim (λh=> .inl (by rw [h.1,show xZ G k=[] from h.2];rfl)) λh=> .inr (h.imp λr h=>⟨by rw [h.1];rfl,(EC (K:=K) (G:=G) (o4:= .list (G.eV.map Told.enc)) (kvs:=kvs) (o7:= .list [r1,r2]) (m:=m) (Ke I h.2).1).1.trans h.2⟩)⟩
end
noncomputable abbrev aOj:List Sx:=[
 .for (.n .cK) (.xN (.xN (.v .Cp) .fZ) .sB) HU,
 .for (.n .kN) (.tup [.neg (.int 1),.int 0,.int 1]) [.for (.n .tE) (.tup [.neg (.int 1),.int 0]) QI],
 .ret (some (.bool true))]
section
variable {K:Kx} {G G1 G2 G3 G4:GS} {kvs:List (Int×V)} {Q:List (Nat×O)} {m m' m2 w k:Nat} {t:Bool} {r1 r2:aE} {sc cell lap one other way tur found told x y a c due:V} {l r:List Sx} {ρ ρ':List (Nm×V)} {st st':St} {p:(Fl×List (Nm×V))×St}
theorem ND (h:∀k,60<=k->forL (ev k).B (.n .cK) HU (G.eV.map Told.enc) (Ic sc cell (.ref 7) lap one other way tur found .un .un .un .un .un .un) (lst K G (.sJ (G.eV.map Told.enc)) [] (.list [r1,r2]) [] m)=some ((.next,Ic sc cell (.ref 7) lap one other way tur found told .un .un .un .un .un),lst K G (.sJ (G.eV.map Told.enc)) kvs (.list [r1,r2]) Q m'))
  (h2:∀k,110<=k->forL (ev k).B (.n .kN) [.for (.n .tE) (.tup [.neg (.int 1),.int 0]) QI] ([-1,0,1].map .int) (Ic sc cell (.ref 7) lap one other way tur found told .un .un .un .un .un) (tS K G kvs r1 r2 Q m')=some ((.next,Ic sc cell (.ref 7) lap one other way tur found told x y a c due),tS K G kvs r1 r2 Q m2)):
  ∀k,115<=k->(ev k).B aOj (Ic sc cell (.ref 7) lap one other way tur found .un .un .un .un .un .un) (cR K G (BP [r1,r2]) m)=some ((.ret (bv true),Ic sc cell (.ref 7) lap one other way tur found told x y a c due),tS K G kvs r1 r2 Q m2):=qI [eF h,eF h2] (by kernel_rfl)
theorem ZK (h:(ev (k+1)).B l ρ st=some ((.next,ρ'),st')) (h2:(ev (k+1)).B r ρ' st'=some p):(ev (k+1)).B (l++r) ρ st=some p:=(Ur h).trans h2
theorem Ok.aNm {T:List (Nat×O)} (h:Ok T m) (l:m<=m'):Ok T m':=⟨λp q=>bA (h.1 p q) l,aB h.2 l⟩
theorem aAl {s:Sg} {t u:Tree} {x y:Int} (d:Drawn s t u) (hx:x∈[-1,0,1]) (hy:y∈[-1,0]):gS 95 .mB [.d (Nd s t u),iv x,iv y] (bv (aJf s (t.val x y) (u.val x y))):=by
 have q:=MN hx hy
 have nx:x.natAbs<=2:=(show ∀x:Int,x∈[-1,0,1]->x.natAbs<=2 by decide) x hx
 have ny:y.natAbs<=2:=(show ∀x:Int,x∈[-1,0]->x.natAbs<=2 by decide) y hy
 obtain ⟨A,n,k,_⟩:=d.tok
 obtain ⟨i,e,_⟩:=Ru d.lf nx ny
 have b:=(EE d.lf).LL nx ny
 unfold Ms at b
 rw [e] at b⊢
 exact aLd (k.LL nx ny).run b.run
theorem tail_at {s1 s2:Sg} {t1 t2 u1 u2:Tree} {rr:Tr} (d1:Drawn s1 t1 u1) (d2:Drawn s2 t2 u2) (e:Ext Ud G3) (q:GD rr G3 G4) (h60:G4.n<=60) (hl:G4.eV.length<=2000) (hw:w<4) (m8:8<=m) (hr:∀v,iK G3 v->rr.at v=(DD w (aJf s1 (t1.val (v 0) (v 1)) (u1.val (v 0) (v 1))) (aJf s2 (t2.val (v 0) (v 1)) (u2.val (v 0) (v 1))) != t)):
  ∃ρ' st',∀k,115<=k->(ev k).B aOj (Ic sc cell (.ref 7) lap one other (iv w) (bv t) found .un .un .un .un .un .un) (cR K G4 (BP [Nd s1 t1 u1,Nd s2 t2 u2]) m)=some ((.ret (bv true),ρ'),st'):=by
 obtain ⟨kvs,Q,m1,told,I,h1⟩:=Vk (K:=K) (G:=G4) (o4:= .sJ (G4.eV.map Told.enc)) (o7:= .list [Nd s1 t1 u1,Nd s2 t2 u2]) (sc:=sc) (cell:=cell) (rows:= .ref 7) (lap:=lap) (one:=one) (other:=other) (way:=iv w) (tur:=bv t) (found:=found) (x:= .un) (y:= .un) (a:= .un) (c:= .un) (due:= .un) G4.eV [] [] [] m .un ⟨bM 0,λp h=>absurd h bN,m8,λk=> .inl ⟨rfl,rfl⟩,λk k' v h=>nomatch h⟩ (λt m=>(q.good.sc t m).1) (by rw [lO,eH];exact aB hl (by decide))
 have I:vN G4.eV kvs Q m1:=I
 have n2:2<=G4.n:=by rw [(Uw q).1];exact e.n
 have dd (z) (hz:In 2 z):G4.eG z=Ud.eG z:=((Uw q).2 z).trans (e.eG z hz)
 have ok (x:Int) (hx:x∈[-1,0,1]) (y:Int) (hy:y∈[-1,0]):aHh K G4 kvs (Nd s1 t1 u1) (Nd s2 t2 u2) Q w t m1 x y:=by
  refine ⟨_,_,aAl d1 hx hy,aAl d2 hx hy,λm' lm=> ?_⟩
  have s:=(aCv hx hy).eG
  exact WV q.good n2 h60 hl (λv v'=>aDr e q) (aDs e q) (I.ok.aNm lm) (I.row m') (by rw [dd 0 ⟨aW 0,by decide⟩];exact s 0 ⟨aW 0,by decide⟩) (by rw [dd 1 ⟨by decide,by decide⟩];exact s 1 ⟨by decide,by decide⟩) (OD e q hx hy λv s a b=>by rw [hr v s,a,b])
 obtain ⟨m2,x,y,a,c,due,h2⟩:=MP (sc:=sc) (cell:=cell) (lap:=lap) (one:=one) (other:=other) (found:=found) (told:=told) hw [-1,0,1] m1 .un .un .un .un .un ok (bM m1)
 exact ⟨_,_,ND h1 h2⟩
end
section
variable {k:Nat} {v:V} {st':St} {ρ':List (Nm×V)}
noncomputable abbrev aPx:List Sx:=aPw++(aPv++([aPt]++(aPu++aOj)))
noncomputable abbrev aPy (x:V):List (Nm×V):=(.Ah,x)::[Nm.iY,.Cp,.nY,.xD,.iC,.Nj,.dP,.dO,.pC,.kV,.dE,.cK,.kN,.tE,.mI,.Br,.Nk].map λx=>(x,V.un)
theorem PU (x:V):CB (ev k) none .En [x] ⟨[],0⟩=((ev k).B aPx (aPy x) ⟨[],0⟩).map λq=>(VM q.1.1,q.2):=by kernel_rfl
theorem PT {x:V} (h:(ev k).B aPx (aPy x) ⟨[],0⟩=some ((.ret v,ρ'),st')):∃st,(ev (k+1)).C none .En [x] ⟨[],0⟩=some (v,st):=⟨_,by
 show Jn (ev k) none .En [x] ⟨[],0⟩=_
 rw [Ql,PU,h];rfl⟩
theorem nR.turn {G:GS} {r:Tr} (h:nR G r) (t:Bool):nR G (bif t then r.no else r):=by cases t;exact h;exact h.no
theorem ZN {r:Tr} {w:Int->Int} (t:Bool):(bif t then r.no else r).at w=(r.at w != t):=by cases t;exact (Qb _).symm;exact Tr.xO.trans (Bool.bne_true _).symm
theorem RI {o:O} {m:Nat} (h:8<=m):Ok [(6,.di []),(7,o)] m:=⟨λp q=>(aJ.1 q).elim (λe=>by rw [e];exact bA (show 6<8 by decide) h) λq=>by rw [aC.1 q];exact bA (show 7<8 by decide) h,aB (by decide) h⟩
theorem aKv (is:List Int):∃st,(ev 216).C none .En [.d (.list (is.map .int))] ⟨[],0⟩=some (bv true,st):=by
 obtain ⟨z,cell,h0⟩:=cells (sc:= .d (.list (is.map .int))) (is.take 40) 1 .un
 rw [List.map_take] at h0
 obtain ⟨z1,s1,t1,u1,a1,a2,r1⟩:=aAp true z
 obtain ⟨z2,s2,t2,u2,b1,b2,r2⟩:=aAp false z1
 have f1:=KY h0 r1 r2
 obtain ⟨A1,n1,k1,hA1,hn1⟩:=r1.ok.tok
 obtain ⟨A2,n2,k2,hA2,hn2⟩:=r2.ok.tok
 have ex:∃v,iK Ud v:=⟨_,aCv (x:=0) (y:=0) (by decide) (by decide)⟩
 have R:nU Ud (30+22):=⟨by decide,by decide,by decide⟩
 obtain ⟨p,G1,P⟩:=Zp (s:=s1) (j:=30) good0 aPg ex k1 hA1 hn1 r1.ok.lf R
 have x1:∃v,iK G1 v:=ex.elim λv s=>(P.step.ext.ex v s).imp λY q=>q.1
 have R1:nU G1 (8+22):=P.step.room 30 0 R
 obtain ⟨q,G2,P2⟩:=Zp (s:=s2) (j:=8) P.step.good (aPg.mono P.step.ext.toPre) x1 k2 hA2 hn2 r2.ok.lf R1
 have R2:nU G2 (7+1):=P2.step.room 8 0 R1
 obtain ⟨m1,l1,g1⟩:=P.run z2 (aHw [Nd s1 t1 u1,Nd s2 t2 u2]) 8 (RI (bM 8))
 obtain ⟨m2,l2,g2⟩:=P2.run z2 (aHw [Nd s1 t1 u1,Nd s2 t2 u2]) m1 (RI l1)
 have f2:=WS (sc:= .d (.list (is.map .int))) (cell:=cell) (lap:=iv 1) (a:= .un) (b:= .un) (c:= .un) (d:= .un) (e:= .un) (f:= .un) g1 g2
 have fm:=Fv z2 (k:=4) (by decide)
 obtain ⟨w,hw⟩:=mR fm.1
 have w4:w<4:=fL.1 (hw▸fm.2)
 rw [hw] at f2
 obtain ⟨r,G3,F⟩:=QU (w:=w) P2.step.good R2 (P.ok.mono P2.step.ext.toPre) P2.ok w4
 have R3:nU G3 7:=F.step.room 7 0 R2
 have n60:G3.n<=60:=aB (aS _ _) R3.v
 have t18:G3.eV.length+140<=2000:=R3.t
 obtain ⟨m3,l3,f3⟩:=F.run (sc:= .d (.list (is.map .int))) (cell:=cell) (rows:= .ref 7) (lap:=iv 1) (tur:=bv ((z2.fdiv 4).fmod 2==1)) (told:= .un) (x:= .un) (y:= .un) (a:= .un) (c:= .un) (due:= .un) ⟨(z2.fdiv 4).fdiv 2,.d .none⟩ (BP [Nd s1 t1 u1,Nd s2 t2 u2]) m2 (RI (aB l1 l2))
 obtain ⟨G4,Q⟩:=aDt (r:=bif (z2.fdiv 4).fmod 2==1 then r.no else r) F.step.good (F.ok.turn _) n60 (aX R3.t2 (by decide))
 have f4:=VN (sc:= .d (.list (is.map .int))) (cell:=cell) (rows:= .ref 7) (lap:=iv 1) (one:= .d p.enc) (other:= .d q.enc) (way:=iv w) (a:= .un) (b:= .un) (c:= .un) (d:= .un) (e:= .un) (f:= .un) _ (Q.run ⟨(z2.fdiv 4).fdiv 2,.d .none⟩ (BP [Nd s1 t1 u1,Nd s2 t2 u2]) m3)
 obtain ⟨ρ',st',f5⟩:=tail_at (K:=⟨(z2.fdiv 4).fdiv 2,.d .none⟩) (sc:= .d (.list (is.map .int))) (cell:=cell) (lap:=iv 1) (one:= .d p.enc) (other:= .d q.enc) (found:= .d r.enc) (t:=(z2.fdiv 4).fmod 2==1) r1.ok r2.ok ((P.step.trans P2.step).trans F.step).ext Q (by rw [(Uw Q).1];exact n60) (aB Q.len (aB (bE (by decide) _) t18)) w4 (aB l1 (aB l2 l3)) λv s=>by
  have s2:=F.step.ext.toPre.sol s
  rw [ZN,F.eq v s,P2.eq v s2,P.eq v (P2.step.ext.toPre.sol s2)]
 exact PT (ZK (f1 215 (by decide)) (ZK (f2 215 (by decide)) (ZK (f3 215 (by decide)) (ZK (f4 215 (by decide)) (f5 215 (by decide))))))
end
end L
end Mine
namespace Mine.main
set_option Elab.async true
theorem tw10044588960856096794:True:=⟨⟩
theorem tw10047389527955405517:True:=⟨⟩
theorem tw10092017014551392330:True:=⟨⟩
theorem tw10094358506670053839:True:=⟨⟩
theorem tw10114013102757674387:True:=⟨⟩
theorem tw10123989817122485451:True:=⟨⟩
theorem tw10140136200207757160:True:=⟨⟩
theorem tw10149618387772673413:True:=⟨⟩
theorem tw10159738436595150677:True:=⟨⟩
theorem tw10177057350305019805:True:=⟨⟩
theorem tw10199874654664476236:True:=⟨⟩
theorem tw10204856939554784155:True:=⟨⟩
theorem tw10231336680788121439:True:=⟨⟩
theorem tw10234815189450012239:True:=⟨⟩
theorem tw1027651156746619712:True:=⟨⟩
theorem tw10298723112805639129:True:=⟨⟩
theorem tw10307860061316391126:True:=⟨⟩
theorem tw10334261112615635914:True:=⟨⟩
theorem tw10363585996791799541:True:=⟨⟩
theorem tw10391951854915411234:True:=⟨⟩
theorem tw104360540948158410:True:=⟨⟩
theorem tw10450603732522932521:True:=⟨⟩
theorem tw10453263994017694363:True:=⟨⟩
theorem tw10455743928339290457:True:=⟨⟩
theorem tw10463206416058312583:True:=⟨⟩
theorem tw1054321117371714560:True:=⟨⟩
theorem tw10564528347858357063:True:=⟨⟩
theorem tw10621178019374374882:True:=⟨⟩
theorem tw10625486282989778954:True:=⟨⟩
theorem tw10642606787283503386:True:=⟨⟩
theorem tw10652611922669240339:True:=⟨⟩
theorem tw10652863235454686790:True:=⟨⟩
theorem tw10663580350406149668:True:=⟨⟩
theorem tw10665089971535097683:True:=⟨⟩
theorem tw10669944970481658594:True:=⟨⟩
theorem tw10707853282979444102:True:=⟨⟩
theorem tw10750994468655217958:True:=⟨⟩
theorem tw10813080517026676716:True:=⟨⟩
theorem tw10825838108423173272:True:=⟨⟩
theorem tw10864377008497418100:True:=⟨⟩
theorem tw10876375607700338302:True:=⟨⟩
theorem tw10877679251791092727:True:=⟨⟩
theorem tw10896356407431480244:True:=⟨⟩
theorem tw10924716458440934090:True:=⟨⟩
theorem tw10953687544409504101:True:=⟨⟩
theorem tw10966044543406309393:True:=⟨⟩
theorem tw1098248734344127483:True:=⟨⟩
theorem tw10992214633131536827:True:=⟨⟩
theorem tw1099256609624015869:True:=⟨⟩
theorem tw11001617756164336837:True:=⟨⟩
theorem tw11003572833241299968:True:=⟨⟩
theorem tw11041547156204584376:True:=⟨⟩
theorem tw11086099901593105684:True:=⟨⟩
theorem tw11101190512080308003:True:=⟨⟩
theorem tw11135027115929721415:True:=⟨⟩
theorem tw11156056980113079860:True:=⟨⟩
theorem tw11181722664286889309:True:=⟨⟩
theorem tw11218778669853930896:True:=⟨⟩
theorem tw11221353774195762014:True:=⟨⟩
theorem tw11239335112260394413:True:=⟨⟩
theorem tw11251407683458634364:True:=⟨⟩
theorem tw11261727412033496967:True:=⟨⟩
theorem tw11273777480241942364:True:=⟨⟩
theorem tw1130211791997205004:True:=⟨⟩
theorem tw11374851513655246148:True:=⟨⟩
theorem tw11388154006635350966:True:=⟨⟩
theorem tw11399646045708457374:True:=⟨⟩
theorem tw11409991511011244131:True:=⟨⟩
theorem tw11410963132546700228:True:=⟨⟩
theorem tw1142173933681417890:True:=⟨⟩
theorem tw11461230924637031220:True:=⟨⟩
theorem tw11476092923266045095:True:=⟨⟩
theorem tw11487549891475536569:True:=⟨⟩
theorem tw1150287232629052791:True:=⟨⟩
theorem tw11544348965984651327:True:=⟨⟩
theorem tw11554813239044494598:True:=⟨⟩
theorem tw1157997071576566072:True:=⟨⟩
theorem tw11595355409239048105:True:=⟨⟩
theorem tw11646826074482590764:True:=⟨⟩
theorem tw11692516046256081784:True:=⟨⟩
theorem tw11710404883906591787:True:=⟨⟩
theorem tw11712081513822626495:True:=⟨⟩
theorem tw11716418206903941319:True:=⟨⟩
theorem tw11785714552879321826:True:=⟨⟩
theorem tw11815829001073249272:True:=⟨⟩
theorem tw11857135199678951331:True:=⟨⟩
theorem tw11967333016625521393:True:=⟨⟩
theorem tw11982392923317675503:True:=⟨⟩
theorem tw11987853993630220354:True:=⟨⟩
theorem tw12027323910402764344:True:=⟨⟩
theorem tw12093647306153771053:True:=⟨⟩
theorem tw12205347405646519318:True:=⟨⟩
theorem tw12273490649430754879:True:=⟨⟩
theorem tw12361340156312767134:True:=⟨⟩
theorem tw1242282695825638017:True:=⟨⟩
theorem tw12431561837914552411:True:=⟨⟩
theorem tw12431731261707249289:True:=⟨⟩
theorem tw12450111651097656602:True:=⟨⟩
theorem tw12463224122652932544:True:=⟨⟩
theorem tw12518504611687188807:True:=⟨⟩
theorem tw1253437644075932092:True:=⟨⟩
theorem tw12543713266681445118:True:=⟨⟩
theorem tw12590340796369385619:True:=⟨⟩
theorem tw12594366453804578888:True:=⟨⟩
theorem tw12608185968620612914:True:=⟨⟩
theorem tw1261021989165538067:True:=⟨⟩
theorem tw12623159325031504133:True:=⟨⟩
theorem tw12646911602827044314:True:=⟨⟩
theorem tw12653679108036650311:True:=⟨⟩
theorem tw12675357926760492328:True:=⟨⟩
theorem tw1270039299266317192:True:=⟨⟩
theorem tw12732289081945773324:True:=⟨⟩
theorem tw12747388180105724736:True:=⟨⟩
theorem tw12748397558918655664:True:=⟨⟩
theorem tw12751799325998411230:True:=⟨⟩
theorem tw12800608258095302798:True:=⟨⟩
theorem tw12839114828313443825:True:=⟨⟩
theorem tw12872379398031375081:True:=⟨⟩
theorem tw12885673836220544336:True:=⟨⟩
theorem tw1289389943133740499:True:=⟨⟩
theorem tw12900284412222446716:True:=⟨⟩
theorem tw12909650291622432550:True:=⟨⟩
theorem tw12915833801598196605:True:=⟨⟩
theorem tw12922898485456448571:True:=⟨⟩
theorem tw12941917028564957548:True:=⟨⟩
theorem tw12974819211118642341:True:=⟨⟩
theorem tw12992176717851604617:True:=⟨⟩
theorem tw1306636233014830658:True:=⟨⟩
theorem tw13077236301305049449:True:=⟨⟩
theorem tw13110577991587790113:True:=⟨⟩
theorem tw13110970153573199417:True:=⟨⟩
theorem tw13113777628852026922:True:=⟨⟩
theorem tw13116522157475607773:True:=⟨⟩
theorem tw13148611719377898607:True:=⟨⟩
theorem tw13154001654789283132:True:=⟨⟩
theorem tw13157206579259725088:True:=⟨⟩
theorem tw13180746182150919023:True:=⟨⟩
theorem tw1319676515408343850:True:=⟨⟩
theorem tw13219505800766818778:True:=⟨⟩
theorem tw13224007501803129859:True:=⟨⟩
theorem tw13227692790652741651:True:=⟨⟩
theorem tw13260870731297125680:True:=⟨⟩
theorem tw13293747886898857621:True:=⟨⟩
theorem tw13313126695403321540:True:=⟨⟩
theorem tw13348322127785295214:True:=⟨⟩
theorem tw13350764725976880583:True:=⟨⟩
theorem tw13355152605343272895:True:=⟨⟩
theorem tw13402765919934010277:True:=⟨⟩
theorem tw13465503431842376007:True:=⟨⟩
theorem tw13503263706703578961:True:=⟨⟩
theorem tw13547569757486424058:True:=⟨⟩
theorem tw13590572293223372214:True:=⟨⟩
theorem tw13591255225166038476:True:=⟨⟩
theorem tw13597483153833180358:True:=⟨⟩
theorem tw13626721169425172152:True:=⟨⟩
theorem tw13642826006792871662:True:=⟨⟩
theorem tw13667920496262714385:True:=⟨⟩
theorem tw13693970394777133609:True:=⟨⟩
theorem tw13724616953566380437:True:=⟨⟩
theorem tw1372806426800153423:True:=⟨⟩
theorem tw13777938177461255882:True:=⟨⟩
theorem tw13838900630717943254:True:=⟨⟩
theorem tw13876859957761632879:True:=⟨⟩
theorem tw13974046611088194958:True:=⟨⟩
theorem tw13980345723018547825:True:=⟨⟩
theorem tw13995172100960836882:True:=⟨⟩
theorem tw14027531716089632829:True:=⟨⟩
theorem tw14060465935940456498:True:=⟨⟩
theorem tw14061640607465278742:True:=⟨⟩
theorem tw14080665800827857628:True:=⟨⟩
theorem tw1409966394225722968:True:=⟨⟩
theorem tw14106445559736802775:True:=⟨⟩
theorem tw14161005256144132680:True:=⟨⟩
theorem tw14168887731352723522:True:=⟨⟩
theorem tw14216407083858561409:True:=⟨⟩
theorem tw14218914174604095658:True:=⟨⟩
theorem tw14235155234550121937:True:=⟨⟩
theorem tw1429040668314091153:True:=⟨⟩
theorem tw14313897822631088780:True:=⟨⟩
theorem tw1439166485080882:True:=⟨⟩
theorem tw14439473939278146460:True:=⟨⟩
theorem tw14504180641510445567:True:=⟨⟩
theorem tw1453356044741674121:True:=⟨⟩
theorem tw14539993770535171780:True:=⟨⟩
theorem tw1454224541498743561:True:=⟨⟩
theorem tw14562738103837258888:True:=⟨⟩
theorem tw14635473669698735251:True:=⟨⟩
theorem tw14639212616227390028:True:=⟨⟩
theorem tw14640416626631428029:True:=⟨⟩
theorem tw14646587721710459877:True:=⟨⟩
theorem tw14666387041718499266:True:=⟨⟩
theorem tw14672674291997333471:True:=⟨⟩
theorem tw1469836325065767749:True:=⟨⟩
theorem tw14722489848711283861:True:=⟨⟩
theorem tw14771111431291430275:True:=⟨⟩
theorem tw14793117695081215449:True:=⟨⟩
theorem tw14798791472264738832:True:=⟨⟩
theorem tw14864641218109852296:True:=⟨⟩
theorem tw14907226015203709474:True:=⟨⟩
theorem tw15017983477296125989:True:=⟨⟩
theorem tw1504049600530537962:True:=⟨⟩
theorem tw15059693217772790739:True:=⟨⟩
theorem tw15060185592220127646:True:=⟨⟩
theorem tw15079240505294077160:True:=⟨⟩
theorem tw15083514112713526041:True:=⟨⟩
theorem tw1519927702969063271:True:=⟨⟩
theorem tw1519992759497675636:True:=⟨⟩
theorem tw15225127925928830808:True:=⟨⟩
theorem tw15270170921892066516:True:=⟨⟩
theorem tw15277975159832343749:True:=⟨⟩
theorem tw15303317825217679618:True:=⟨⟩
theorem tw15350898050860989542:True:=⟨⟩
theorem tw15356762974548107741:True:=⟨⟩
theorem tw15365013842991253249:True:=⟨⟩
theorem tw15387884906608193903:True:=⟨⟩
theorem tw15410482203810522393:True:=⟨⟩
theorem tw15438212644395081984:True:=⟨⟩
theorem tw1545906260438175962:True:=⟨⟩
theorem tw15465920861327815835:True:=⟨⟩
theorem tw15467891735981029475:True:=⟨⟩
theorem tw15485851114877660061:True:=⟨⟩
theorem tw15510692781650021527:True:=⟨⟩
theorem tw15514936471743626214:True:=⟨⟩
theorem tw15554039934745177238:True:=⟨⟩
theorem tw15558288988949320067:True:=⟨⟩
theorem tw15580989882048331800:True:=⟨⟩
theorem tw15589955886551607785:True:=⟨⟩
theorem tw15595112118272840620:True:=⟨⟩
theorem tw15608450976537380609:True:=⟨⟩
theorem tw15616401959046598769:True:=⟨⟩
theorem tw15624239662980076321:True:=⟨⟩
theorem tw15734200111481486640:True:=⟨⟩
theorem tw15734660467963936456:True:=⟨⟩
theorem tw15737690656516749961:True:=⟨⟩
theorem tw15800677430330856352:True:=⟨⟩
theorem tw15803610866087392283:True:=⟨⟩
theorem tw1587290215689348708:True:=⟨⟩
theorem tw15928290008803537013:True:=⟨⟩
theorem tw15955573374722617477:True:=⟨⟩
theorem tw16008252555379753968:True:=⟨⟩
theorem tw16008457594558532635:True:=⟨⟩
theorem tw16022572192331126682:True:=⟨⟩
theorem tw16026485685270457870:True:=⟨⟩
theorem tw16035907590883218939:True:=⟨⟩
theorem tw16046730324260685337:True:=⟨⟩
theorem tw16049902774474827687:True:=⟨⟩
theorem tw16135426469972691074:True:=⟨⟩
theorem tw16136984950599521427:True:=⟨⟩
theorem tw1615045767204293396:True:=⟨⟩
theorem tw16153842264607907944:True:=⟨⟩
theorem tw1615956725737779560:True:=⟨⟩
theorem tw16187894506366716058:True:=⟨⟩
theorem tw16190080663914704074:True:=⟨⟩
theorem tw161903638078081290:True:=⟨⟩
theorem tw16193401482309157537:True:=⟨⟩
theorem tw16251939892948500945:True:=⟨⟩
theorem tw1628013610222277130:True:=⟨⟩
theorem tw16305672181175384284:True:=⟨⟩
theorem tw1632041292262086317:True:=⟨⟩
theorem tw16320729459185622934:True:=⟨⟩
theorem tw16356685582667847594:True:=⟨⟩
theorem tw16411370214107742406:True:=⟨⟩
theorem tw16451033083921036709:True:=⟨⟩
theorem tw16452447596832230105:True:=⟨⟩
theorem tw1645717771770832407:True:=⟨⟩
theorem tw16502483802911295008:True:=⟨⟩
theorem tw16508919721030705984:True:=⟨⟩
theorem tw16519101796099990279:True:=⟨⟩
theorem tw16544489699163171333:True:=⟨⟩
theorem tw16572128252103988241:True:=⟨⟩
theorem tw16629339528299215175:True:=⟨⟩
theorem tw16641786646906312760:True:=⟨⟩
theorem tw16689149305811164139:True:=⟨⟩
theorem tw16721930046160240684:True:=⟨⟩
theorem tw1677766988990989824:True:=⟨⟩
theorem tw16778611742570070204:True:=⟨⟩
theorem tw1678875084529416142:True:=⟨⟩
theorem tw16798622893749714585:True:=⟨⟩
theorem tw16806246253224384389:True:=⟨⟩
theorem tw16817993663026736274:True:=⟨⟩
theorem tw16819838333489098493:True:=⟨⟩
theorem tw16826212616301561204:True:=⟨⟩
theorem tw16922381011570985944:True:=⟨⟩
theorem tw16923884221124529275:True:=⟨⟩
theorem tw16959884160788844718:True:=⟨⟩
theorem tw16965079339398995527:True:=⟨⟩
theorem tw17016820405989369747:True:=⟨⟩
theorem tw17052023290607921161:True:=⟨⟩
theorem tw17057053908230417247:True:=⟨⟩
theorem tw17091655785135471103:True:=⟨⟩
theorem tw17118054049896295152:True:=⟨⟩
theorem tw17128291446047057950:True:=⟨⟩
theorem tw17147588175821073265:True:=⟨⟩
theorem tw1714950047550659301:True:=⟨⟩
theorem tw17201416709059790184:True:=⟨⟩
theorem tw17223442867436993403:True:=⟨⟩
theorem tw17268439761433841065:True:=⟨⟩
theorem tw17270198782204537913:True:=⟨⟩
theorem tw17272174723667511238:True:=⟨⟩
theorem tw17290568124846718506:True:=⟨⟩
theorem tw17292155258170135553:True:=⟨⟩
theorem tw17297283025540448806:True:=⟨⟩
theorem tw17298425922696826006:True:=⟨⟩
theorem tw17336282652733537790:True:=⟨⟩
theorem tw17353955331779342651:True:=⟨⟩
theorem tw17402982504261768225:True:=⟨⟩
theorem tw17403364634526059139:True:=⟨⟩
theorem tw17431719831054627609:True:=⟨⟩
theorem tw17438294365789470252:True:=⟨⟩
theorem tw17477492558424962760:True:=⟨⟩
theorem tw17510229520200029679:True:=⟨⟩
theorem tw17516193472806638330:True:=⟨⟩
theorem tw17561526911342447988:True:=⟨⟩
theorem tw17679725944135375923:True:=⟨⟩
theorem tw17695171507069755227:True:=⟨⟩
theorem tw17708487481403421675:True:=⟨⟩
theorem tw17715262827843222689:True:=⟨⟩
theorem tw17725498274588495791:True:=⟨⟩
theorem tw17737603089517620647:True:=⟨⟩
theorem tw1777545030009416734:True:=⟨⟩
theorem tw17864028415675338326:True:=⟨⟩
theorem tw17871620999419790863:True:=⟨⟩
theorem tw17906638245316424091:True:=⟨⟩
theorem tw17971684651808409997:True:=⟨⟩
theorem tw17974016328880235120:True:=⟨⟩
theorem tw18031918436515192882:True:=⟨⟩
theorem tw18063282731904131703:True:=⟨⟩
theorem tw18120430973489738927:True:=⟨⟩
theorem tw18134284020713443437:True:=⟨⟩
theorem tw18178676814319149831:True:=⟨⟩
theorem tw18185559012729396856:True:=⟨⟩
theorem tw18190005008629794160:True:=⟨⟩
theorem tw18196612635424134153:True:=⟨⟩
theorem tw1822916474148579089:True:=⟨⟩
theorem tw18238007617527299592:True:=⟨⟩
theorem tw1826329307503635854:True:=⟨⟩
theorem tw18284262389922463811:True:=⟨⟩
theorem tw18287795668848337631:True:=⟨⟩
theorem tw18302796317244248524:True:=⟨⟩
theorem tw18315214858253571532:True:=⟨⟩
theorem tw18325589031809861271:True:=⟨⟩
theorem tw18332899500509843999:True:=⟨⟩
theorem tw18344032359734412310:True:=⟨⟩
theorem tw18385570937342765463:True:=⟨⟩
theorem tw18392154025008590481:True:=⟨⟩
theorem tw18403998269306519403:True:=⟨⟩
theorem tw18418235949754561950:True:=⟨⟩
theorem tw18425317256667529438:True:=⟨⟩
theorem tw18431692314602308842:True:=⟨⟩
theorem tw18442785490491869365:True:=⟨⟩
theorem tw1850612553970854742:True:=⟨⟩
theorem tw1886080085820668685:True:=⟨⟩
theorem tw1975269967175244415:True:=⟨⟩
theorem tw1980160206288974728:True:=⟨⟩
theorem tw1985303169890630295:True:=⟨⟩
theorem tw2019394398466159022:True:=⟨⟩
theorem tw2110754180369666209:True:=⟨⟩
theorem tw2173562974560187446:True:=⟨⟩
theorem tw2195194259037543316:True:=⟨⟩
theorem tw221909299271738847:True:=⟨⟩
theorem tw2225956059507018244:True:=⟨⟩
theorem tw223528310411579522:True:=⟨⟩
theorem tw2238316416991798583:True:=⟨⟩
theorem tw2279707942289718827:True:=⟨⟩
theorem tw2287757881348798766:True:=⟨⟩
theorem tw2341703837736514645:True:=⟨⟩
theorem tw2402762420636078793:True:=⟨⟩
theorem tw2406621943657119228:True:=⟨⟩
theorem tw2433702464844828792:True:=⟨⟩
theorem tw2456247091588846565:True:=⟨⟩
theorem tw2496676261509829067:True:=⟨⟩
theorem tw2524017781993486291:True:=⟨⟩
theorem tw2538046985915079169:True:=⟨⟩
theorem tw2544328076492683441:True:=⟨⟩
theorem tw2566753976717531306:True:=⟨⟩
theorem tw2583023086579268501:True:=⟨⟩
theorem tw2629084897520917108:True:=⟨⟩
theorem tw2647654807098235363:True:=⟨⟩
theorem tw2702614204127132176:True:=⟨⟩
theorem tw2704602940660078815:True:=⟨⟩
theorem tw2714283472998740243:True:=⟨⟩
theorem tw2724176850512262202:True:=⟨⟩
theorem tw2729793432009153956:True:=⟨⟩
theorem tw2750411421705246143:True:=⟨⟩
theorem tw2759098988195820126:True:=⟨⟩
theorem tw2852251193174398662:True:=⟨⟩
theorem tw2895952525429962455:True:=⟨⟩
theorem tw2900998541784483753:True:=⟨⟩
theorem tw2906824675625879941:True:=⟨⟩
theorem tw2921621734765799159:True:=⟨⟩
theorem tw2921958311620399285:True:=⟨⟩
theorem tw302440914744352476:True:=⟨⟩
theorem tw3027586509356016917:True:=⟨⟩
theorem tw3045742163950154196:True:=⟨⟩
theorem tw3137596982192898869:True:=⟨⟩
theorem tw3234112476842188716:True:=⟨⟩
theorem tw3298483428156984901:True:=⟨⟩
theorem tw3299218664060906527:True:=⟨⟩
theorem tw330327031418712150:True:=⟨⟩
theorem tw3343439749351644125:True:=⟨⟩
theorem tw3394367416137920725:True:=⟨⟩
theorem tw3454311308915712629:True:=⟨⟩
theorem tw3464709057266567092:True:=⟨⟩
theorem tw3466206800631347469:True:=⟨⟩
theorem tw3491332818749588091:True:=⟨⟩
theorem tw3557749057250611081:True:=⟨⟩
theorem tw3562595001068472590:True:=⟨⟩
theorem tw358491910552652209:True:=⟨⟩
theorem tw3626430660855392483:True:=⟨⟩
theorem tw3627144658338631552:True:=⟨⟩
theorem tw365850788961202214:True:=⟨⟩
theorem tw3706830351922483016:True:=⟨⟩
theorem tw3748114642381145586:True:=⟨⟩
theorem tw3796207824708393856:True:=⟨⟩
theorem tw3829396358689915599:True:=⟨⟩
theorem tw3864431920445960829:True:=⟨⟩
theorem tw3867218068155391060:True:=⟨⟩
theorem tw387501639795913443:True:=⟨⟩
theorem tw3905226178654972811:True:=⟨⟩
theorem tw3911810758690780188:True:=⟨⟩
theorem tw3958507339218470045:True:=⟨⟩
theorem tw3960113756560652017:True:=⟨⟩
theorem tw3994622017586750766:True:=⟨⟩
theorem tw4038153913678941442:True:=⟨⟩
theorem tw4039676971129161736:True:=⟨⟩
theorem tw4044139247061151142:True:=⟨⟩
theorem tw4088224383575840552:True:=⟨⟩
theorem tw4139100593308808776:True:=⟨⟩
theorem tw4189750870438640210:True:=⟨⟩
theorem tw4261964983698606537:True:=⟨⟩
theorem tw4297412468100583042:True:=⟨⟩
theorem tw4310270188432123100:True:=⟨⟩
theorem tw4324958949535026087:True:=⟨⟩
theorem tw4330594992337426955:True:=⟨⟩
theorem tw4333880214566435006:True:=⟨⟩
theorem tw4413345314126155841:True:=⟨⟩
theorem tw4452170602077327944:True:=⟨⟩
theorem tw4458048076830672230:True:=⟨⟩
theorem tw4491334807805099456:True:=⟨⟩
theorem tw4500915450034043215:True:=⟨⟩
theorem tw451873465583785326:True:=⟨⟩
theorem tw452746233719593009:True:=⟨⟩
theorem tw453184122279072053:True:=⟨⟩
theorem tw4544244032028310869:True:=⟨⟩
theorem tw4573282807186111410:True:=⟨⟩
theorem tw4585930131862741453:True:=⟨⟩
theorem tw4592260682591058475:True:=⟨⟩
theorem tw4605139254293405059:True:=⟨⟩
theorem tw4637267157515435788:True:=⟨⟩
theorem tw4651154628705390771:True:=⟨⟩
theorem tw4681395471914393968:True:=⟨⟩
theorem tw471287901995484742:True:=⟨⟩
theorem tw4749052000479324790:True:=⟨⟩
theorem tw4766233809647381661:True:=⟨⟩
theorem tw4775608329324902142:True:=⟨⟩
theorem tw4812270449578504274:True:=⟨⟩
theorem tw4817600198373253283:True:=⟨⟩
theorem tw4839478117068044826:True:=⟨⟩
theorem tw48596604365144762:True:=⟨⟩
theorem tw4917070330192852093:True:=⟨⟩
theorem tw4946776927847147119:True:=⟨⟩
theorem tw4948327476702027199:True:=⟨⟩
theorem tw4963571667203607135:True:=⟨⟩
theorem tw49674306023711395:True:=⟨⟩
theorem tw4990475226369331113:True:=⟨⟩
theorem tw5127751686995613262:True:=⟨⟩
theorem tw5160751907100791332:True:=⟨⟩
theorem tw5181119749688162637:True:=⟨⟩
theorem tw5203219222101121401:True:=⟨⟩
theorem tw52199770228462824:True:=⟨⟩
theorem tw5240536507193477226:True:=⟨⟩
theorem tw5240779543111244032:True:=⟨⟩
theorem tw5243159528196176124:True:=⟨⟩
theorem tw5287059835090251167:True:=⟨⟩
theorem tw5309058905264134205:True:=⟨⟩
theorem tw5363903885879670357:True:=⟨⟩
theorem tw5372645768047454471:True:=⟨⟩
theorem tw5378808338967829844:True:=⟨⟩
theorem tw5396188567872606041:True:=⟨⟩
theorem tw5396361742852586263:True:=⟨⟩
theorem tw5400957986263281647:True:=⟨⟩
theorem tw5401703158475992631:True:=⟨⟩
theorem tw5418533224930618480:True:=⟨⟩
theorem tw5436791530062809996:True:=⟨⟩
theorem tw544890216719031943:True:=⟨⟩
theorem tw5450094653865882931:True:=⟨⟩
theorem tw545269030811804461:True:=⟨⟩
theorem tw5473700226181020891:True:=⟨⟩
theorem tw5517759331935216279:True:=⟨⟩
theorem tw5518243967957118194:True:=⟨⟩
theorem tw5548943743634857327:True:=⟨⟩
theorem tw5566141238382327452:True:=⟨⟩
theorem tw5571399437266216444:True:=⟨⟩
theorem tw5585478044538960755:True:=⟨⟩
theorem tw5613160597433933154:True:=⟨⟩
theorem tw5623159541915647742:True:=⟨⟩
theorem tw5638201095994319732:True:=⟨⟩
theorem tw5649967823195072380:True:=⟨⟩
theorem tw5665406974723832613:True:=⟨⟩
theorem tw570165795956349094:True:=⟨⟩
theorem tw5781596087445459943:True:=⟨⟩
theorem tw5790326737455844299:True:=⟨⟩
theorem tw5831584030425509755:True:=⟨⟩
theorem tw5837888446457221635:True:=⟨⟩
theorem tw5842977544298395883:True:=⟨⟩
theorem tw587328917346081906:True:=⟨⟩
theorem tw588950844065142505:True:=⟨⟩
theorem tw5921134243170700561:True:=⟨⟩
theorem tw5995161000843957690:True:=⟨⟩
theorem tw6044114016751833949:True:=⟨⟩
theorem tw6053611964639427726:True:=⟨⟩
theorem tw6075091234017535682:True:=⟨⟩
theorem tw6112859857366181021:True:=⟨⟩
theorem tw6144840922855203626:True:=⟨⟩
theorem tw6161133996638707016:True:=⟨⟩
theorem tw6162249291895867263:True:=⟨⟩
theorem tw6164561884633627433:True:=⟨⟩
theorem tw6183352029847204284:True:=⟨⟩
theorem tw6214117541549086881:True:=⟨⟩
theorem tw6222487380544312443:True:=⟨⟩
theorem tw6334894449686545209:True:=⟨⟩
theorem tw6361450105264607166:True:=⟨⟩
theorem tw6389877041954997217:True:=⟨⟩
theorem tw6418098437765475518:True:=⟨⟩
theorem tw6449824600675878752:True:=⟨⟩
theorem tw6455149578367423246:True:=⟨⟩
theorem tw6508729118710982530:True:=⟨⟩
theorem tw6511744376749373798:True:=⟨⟩
theorem tw6557543464795787104:True:=⟨⟩
theorem tw656089360051881306:True:=⟨⟩
theorem tw65644731488775911:True:=⟨⟩
theorem tw6565609875121592624:True:=⟨⟩
theorem tw6596593509180878263:True:=⟨⟩
theorem tw66260789543402106:True:=⟨⟩
theorem tw6635558491612396129:True:=⟨⟩
theorem tw6639522245352263942:True:=⟨⟩
theorem tw6655696309031964122:True:=⟨⟩
theorem tw6657087868060814:True:=⟨⟩
theorem tw6660377722381337597:True:=⟨⟩
theorem tw6663778134991626487:True:=⟨⟩
theorem tw6674893403203295414:True:=⟨⟩
theorem tw6690441779611380620:True:=⟨⟩
theorem tw6702130215012162313:True:=⟨⟩
theorem tw6741292078354696603:True:=⟨⟩
theorem tw6785657489111691699:True:=⟨⟩
theorem tw6788530277367551627:True:=⟨⟩
theorem tw6788695710022549768:True:=⟨⟩
theorem tw6801380410627298636:True:=⟨⟩
theorem tw6855474311058116810:True:=⟨⟩
theorem tw6862268138105152660:True:=⟨⟩
theorem tw6862492499505807319:True:=⟨⟩
theorem tw6877560268529008848:True:=⟨⟩
theorem tw6880717277089553138:True:=⟨⟩
theorem tw6886502059237256666:True:=⟨⟩
theorem tw6907636171062424033:True:=⟨⟩
theorem tw6910295442248876197:True:=⟨⟩
theorem tw6912675738884088206:True:=⟨⟩
theorem tw6981815665589151136:True:=⟨⟩
theorem tw7019240024125815769:True:=⟨⟩
theorem tw7021485055783802345:True:=⟨⟩
theorem tw7074144079889050967:True:=⟨⟩
theorem tw7083192437325867461:True:=⟨⟩
theorem tw7093617532817203218:True:=⟨⟩
theorem tw7153082081811710619:True:=⟨⟩
theorem tw716429049611869786:True:=⟨⟩
theorem tw7165207203227711834:True:=⟨⟩
theorem tw7173623326730630234:True:=⟨⟩
theorem tw7186131708394509389:True:=⟨⟩
theorem tw7214478077546791972:True:=⟨⟩
theorem tw7235775444256392728:True:=⟨⟩
theorem tw7237411587787531456:True:=⟨⟩
theorem tw7268301785047649679:True:=⟨⟩
theorem tw7273056430967151046:True:=⟨⟩
theorem tw7293298908176781663:True:=⟨⟩
theorem tw7298748307773712898:True:=⟨⟩
theorem tw7308723440029596264:True:=⟨⟩
theorem tw7332552209862256014:True:=⟨⟩
theorem tw73751810991705359:True:=⟨⟩
theorem tw7411558596216406370:True:=⟨⟩
theorem tw7439787175107056256:True:=⟨⟩
theorem tw7514964652732493775:True:=⟨⟩
theorem tw7590696779544312186:True:=⟨⟩
theorem tw7623511443260959870:True:=⟨⟩
theorem tw7647378279178456250:True:=⟨⟩
theorem tw765107192605250810:True:=⟨⟩
theorem tw7691172733374981047:True:=⟨⟩
theorem tw7698036289167662538:True:=⟨⟩
theorem tw7699798408344515789:True:=⟨⟩
theorem tw7751025194823839400:True:=⟨⟩
theorem tw7846812961960373227:True:=⟨⟩
theorem tw785246043732427063:True:=⟨⟩
theorem tw7884331609784382070:True:=⟨⟩
theorem tw7904437144335635152:True:=⟨⟩
theorem tw796168687070700412:True:=⟨⟩
theorem tw7974275031393228247:True:=⟨⟩
theorem tw799486724532869496:True:=⟨⟩
theorem tw8046773169563483271:True:=⟨⟩
theorem tw8060562821785662972:True:=⟨⟩
theorem tw8079908401900000222:True:=⟨⟩
theorem tw8090509862211737132:True:=⟨⟩
theorem tw8118072479153026202:True:=⟨⟩
theorem tw8127475511531132179:True:=⟨⟩
theorem tw8207831470162742035:True:=⟨⟩
theorem tw8211959896082780389:True:=⟨⟩
theorem tw8228058824784995430:True:=⟨⟩
theorem tw8260724100714396741:True:=⟨⟩
theorem tw8265370782698574782:True:=⟨⟩
theorem tw826715711578717668:True:=⟨⟩
theorem tw832900586485598795:True:=⟨⟩
theorem tw833945537157984683:True:=⟨⟩
theorem tw834873547066669988:True:=⟨⟩
theorem tw8436210846270712021:True:=⟨⟩
theorem tw8440099810896429113:True:=⟨⟩
theorem tw8466321980469482115:True:=⟨⟩
theorem tw8467378866343419333:True:=⟨⟩
theorem tw8475525182357872103:True:=⟨⟩
theorem tw8478376212529829071:True:=⟨⟩
theorem tw8484041278411425421:True:=⟨⟩
theorem tw8502009786194526861:True:=⟨⟩
theorem tw854977524454699277:True:=⟨⟩
theorem tw8627561154394265716:True:=⟨⟩
theorem tw8652556701797213591:True:=⟨⟩
theorem tw8663697691656813868:True:=⟨⟩
theorem tw8707812797481193996:True:=⟨⟩
theorem tw8729708805864041840:True:=⟨⟩
theorem tw8748973510418095054:True:=⟨⟩
theorem tw8809968196449919288:True:=⟨⟩
theorem tw8834365191522931223:True:=⟨⟩
theorem tw8844999433837080629:True:=⟨⟩
theorem tw8905464785575363620:True:=⟨⟩
theorem tw892681787802806017:True:=⟨⟩
theorem tw8930851030842425676:True:=⟨⟩
theorem tw8947760058931562597:True:=⟨⟩
theorem tw8952462522180670554:True:=⟨⟩
theorem tw9121559901702372667:True:=⟨⟩
theorem tw9155575984036265788:True:=⟨⟩
theorem tw917386388269078853:True:=⟨⟩
theorem tw9175052073728820173:True:=⟨⟩
theorem tw918671981122897330:True:=⟨⟩
theorem tw9189880136782149556:True:=⟨⟩
theorem tw9253799994812790149:True:=⟨⟩
theorem tw9265829497004654079:True:=⟨⟩
theorem tw9268297945177815525:True:=⟨⟩
theorem tw9272984997812220495:True:=⟨⟩
theorem tw9274054859765456524:True:=⟨⟩
theorem tw9302470337196694018:True:=⟨⟩
theorem tw9360745474812902239:True:=⟨⟩
theorem tw9361300454564663673:True:=⟨⟩
theorem tw9368617206455126095:True:=⟨⟩
theorem tw9369988214560726041:True:=⟨⟩
theorem tw9376575566392132001:True:=⟨⟩
theorem tw9381277316556691805:True:=⟨⟩
theorem tw9392487213469676918:True:=⟨⟩
theorem tw9406782406253462049:True:=⟨⟩
theorem tw9417822746687237092:True:=⟨⟩
theorem tw9470667924834194258:True:=⟨⟩
theorem tw9483120023164983764:True:=⟨⟩
theorem tw9498315638749924794:True:=⟨⟩
theorem tw9508770018378322450:True:=⟨⟩
theorem tw9515011664573035354:True:=⟨⟩
theorem tw9557352009045844224:True:=⟨⟩
theorem tw9561784451562097942:True:=⟨⟩
theorem tw962032349192862916:True:=⟨⟩
theorem tw9670510015898674028:True:=⟨⟩
theorem tw9681375758050803366:True:=⟨⟩
theorem tw9682133043923132273:True:=⟨⟩
theorem tw9730157408454304684:True:=⟨⟩
theorem tw9756827057097773860:True:=⟨⟩
theorem tw979501456738626862:True:=⟨⟩
theorem tw9808303207383738048:True:=⟨⟩
theorem tw9840939614602229412:True:=⟨⟩
theorem tw9848185148710128376:True:=⟨⟩
theorem tw9897820754763898449:True:=⟨⟩
theorem tw9903775340124721222:True:=⟨⟩
theorem tw9925469786538053656:True:=⟨⟩
theorem tw9942282790977331292:True:=⟨⟩
theorem tw9957550378297406723:True:=⟨⟩
theorem tw9976160756891316704:True:=⟨⟩
theorem tw9994787619460420439:True:=⟨⟩
end Mine.main
namespace Mine
open PySem PySem.W PyProof.Rows
set_option tactic.hygienic true
set_option maxHeartbeats 8000000
set_option Elab.async true
theorem main:PySem.Challenge.rw_xw0068_01.Holds:=by
 w_on;o_law;k_head;(case hw=>w_witness2)
 k_fill
 intro w s₀ s₁ mg mb G Y fa o pm cd doc dV kV ho hd' hcd hD hmg hg args vals as hpre hlay hrd hwl hlo
 have KX:=kIn_of Y
 have X:=(Ground.X G).1
 have V:=(Ground.X G).2
 refine Ground.open G ?_
 intro T B D TE TW
 try (refine guard_noD D (by decide+kernel) ?_;clear D)
 wrow_args hpre hlay hrd hwl hlo
 all_goals (
  first | refine callC_kw (enter_call ?_) | refine enter_call ?_ | refine callC_kw (enter_callW ?_) | refine enter_callW ?_
  w_top on
  try refine codeAny_mono ?_ (λ_ _ g=>GoodW.toG g))
 rename_i is _ _ _ _ _ _ _ l vs _ hL _ _ _ hI _ h63 _
 have h63:is.length≤63:=by omega
 obtain ⟨st',he⟩:=L.aKv is
 refine aKs (by decide+kernel) KX T (l:=[28,35,42,49,56,63,70,75,80,87,224,231,238,252,262,269,274,281,286,293,300,537,544,551,556,561,568,575,582,587,592,597,182,189,196,203,210,314,321,328,333,338,350,355,362,367,372,379,384,421,428,440,447,454,473,478,483,497,504]) ?seen ?rows ?sup he (show mg _=_ from hmg) hL hI h63 λh' tk kp=> ?_
 case seen=>exact ⟨⟨(by kernel_rfl),⟨450,(by kernel_rfl)⟩,(by kernel_rfl),⟨499,500,(by kernel_rfl)⟩,(by kernel_rfl),(by kernel_rfl)⟩,aOw (by kernel_rfl) (by kernel_rfl) (by kernel_rfl),aOw (by kernel_rfl) (by kernel_rfl) (by kernel_rfl),aOw (by kernel_rfl) (by kernel_rfl) (by kernel_rfl),aOw (by kernel_rfl) (by kernel_rfl) (by kernel_rfl),aOa (by kernel_rfl) (by kernel_rfl) (by kernel_rfl) (by kernel_rfl) (by kernel_rfl) (by kernel_rfl) (by kernel_rfl),(by kernel_rfl),(by kernel_rfl),(by kernel_rfl),aOw (by kernel_rfl) (by kernel_rfl) (by kernel_rfl),aOw (by kernel_rfl) (by kernel_rfl) (by kernel_rfl)⟩
 case rows=>exact aNy (by kernel_rfl) (aHx λx y=>by kernel_rfl)<|aNy (by kernel_rfl) (aBo λx y z=>by kernel_rfl)<|aNy (by kernel_rfl) (aHy λx=>by kernel_rfl)<|aNy (by kernel_rfl) (aHy λx=>by kernel_rfl)<|aNy (by kernel_rfl) (aHy λx=>by kernel_rfl)<|aNy (by kernel_rfl) (aHx λx y=>by kernel_rfl)<|aNy (by kernel_rfl) (aHx λx y=>by kernel_rfl)<|aNy (by kernel_rfl) (aHx λx y=>by kernel_rfl)<|aNy (by kernel_rfl) (aHx λx y=>by kernel_rfl)<|aNy (by kernel_rfl) (aHx λx y=>by kernel_rfl)<|aNy (by kernel_rfl) (aHy λx=>by kernel_rfl)<|aNy (by kernel_rfl) (aBo λx y z=>by kernel_rfl)<|aNy (by kernel_rfl) (aHy λx=>by kernel_rfl)<|aNy (by kernel_rfl) (aGq λx y z u=>by kernel_rfl)<|aNy (by kernel_rfl) (aHx λx y=>by kernel_rfl)<|aNy (by kernel_rfl) (aHy λx=>by kernel_rfl)<|aNy (by kernel_rfl) (aHy λx=>by kernel_rfl)<|aNy (by kernel_rfl) (aHy λx=>by kernel_rfl)<|aNy (by kernel_rfl) (aBo λx y z=>by kernel_rfl)<|aNy (by kernel_rfl) (aHy λx=>by kernel_rfl)<|aNy (by kernel_rfl) (aHy λx=>by kernel_rfl)<|aNy (by kernel_rfl) (aHx λx y=>by kernel_rfl)<|aNy (by kernel_rfl) (aHy λx=>by kernel_rfl)<|aNy (by kernel_rfl) (aHx λx y=>by kernel_rfl)<|aNy (by kernel_rfl) (aHx λx y=>by kernel_rfl)<|aNy (by kernel_rfl) (aBo λx y z=>by kernel_rfl)<|aNy (by kernel_rfl) (aBo λx y z=>by kernel_rfl)<|aNy (by kernel_rfl) (aHx λx y=>by kernel_rfl)<|aNy (by kernel_rfl) (aHy λx=>by kernel_rfl)<|aNy (by kernel_rfl) (aHx λx y=>by kernel_rfl)<|aNy (by kernel_rfl) (aBo λx y z=>by kernel_rfl)<|aNy (by kernel_rfl) (aHy λx=>by kernel_rfl)<|aNy (by kernel_rfl) (aHy λx=>by kernel_rfl)<|aNy (by kernel_rfl) (aBo λx y z=>by kernel_rfl)<|aNy (by kernel_rfl) (aHx λx y=>by kernel_rfl)<|aNy (by kernel_rfl) (aHy λx=>by kernel_rfl)<|aNy (by kernel_rfl) (aHx λx y=>by kernel_rfl)<|aNy (by kernel_rfl) (aHy λx=>by kernel_rfl)<|aNy (by kernel_rfl) (aBo λx y z=>by kernel_rfl)<|aNy (by kernel_rfl) (aHx λx y=>by kernel_rfl)<|aNy (by kernel_rfl) (aHx λx y=>by kernel_rfl)<|aNy (by kernel_rfl) (aHx λx y=>by kernel_rfl)<|aNy (by kernel_rfl) (aBo λx y z=>by kernel_rfl)<|aNy (by kernel_rfl) (aBo λx y z=>by kernel_rfl)<|aNy (by kernel_rfl) (aHx λx y=>by kernel_rfl)<|aNy (by kernel_rfl) (aHx λx y=>by kernel_rfl)<|aNy (by kernel_rfl) (aHx λx y=>by kernel_rfl)<|aNy (by kernel_rfl) (aBo λx y z=>by kernel_rfl)<|aNy (by kernel_rfl) (aHx λx y=>by kernel_rfl)<|aNy (by kernel_rfl) (aHx λx y=>by kernel_rfl)<|aNy (by kernel_rfl) (aBo λx y z=>by kernel_rfl)<|aNy (by kernel_rfl) (aGq λx y z u=>by kernel_rfl)<|aNy (by kernel_rfl) (aHx λx y=>by kernel_rfl)<|aNy (by kernel_rfl) (aGq λx y z u=>by kernel_rfl)<|aNy (by kernel_rfl) (aGq λx y z u=>by kernel_rfl)<|aNy (by kernel_rfl) (aHx λx y=>by kernel_rfl)<|aNy (by kernel_rfl) (aBo λx y z=>by kernel_rfl)<|aNy (by kernel_rfl) (aBo λx y z=>by kernel_rfl)<|aNy (by kernel_rfl) (aGq λx y z u=>by kernel_rfl)<|NZ
 case sup=>exact ⟨(by kernel_rfl),(by kernel_rfl),(by kernel_rfl),(by kernel_rfl),(by kernel_rfl),(by kernel_rfl),(by kernel_rfl),(by kernel_rfl),(by kernel_rfl),(by kernel_rfl),(by kernel_rfl),(by kernel_rfl),(by kernel_rfl),(by kernel_rfl),(by kernel_rfl),(by kernel_rfl)⟩
 exact ⟨.inl ⟨.bool true,.bool true,[],rfl,λ_=>rfl,.bool true,by refine postW_of (X:=true) ?zs ?zv rfl;(case zs=>o_shape);(case zv=>wtm_val),unshared_nil⟩,kp,rfl,hg⟩
end Mine
theorem PySem.Challenge.cw_xw0068_01_holds : PySem.Challenge.rw_xw0068_01.Holds :=
  Mine.main
