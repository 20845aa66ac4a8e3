import PyProof.Rows.All
import Open.FastLooks
import Open.FastRun
import Open.FastT9
import Open.Line
import OpenK.KOwn
import KE.KxBytes
import KE.BytesMake
import KE.KDictList
import KE.KBytesCut
import Wide.BytesFacts
import Wide.BytesRules
import Wide.Built
import Wide.Line
import Wide.Loose
import Wide.FinOn
import Lean
import PySem.Challenge.RW_xw0276_01
set_option Elab.async false
set_option maxRecDepth 100000
set_option autoImplicit false
set_option linter.all false
set_option genSizeOfSpec false
set_option genInjectivity false
open PySem renaming Shared->Sl,wpAny_bind->Sm,Addr->So,wpAny->Sq,Expr->Su,Str->Sv,wpAny_pure->Sx,Pos->SE,Sem->SJ,Obj->SK,Env->SY,Stmt->S1,Heap->S2,Around->S3,NameKind->S5,cellsFrom->Td,wpAny_holding->To,wpAny_mono->Tq,World->Tu,mainGlobals->TG,cLine->TJ,Scope->TY,sizeLine->Uc,nsFind->Uh,pyNext->Uk,rawInt->Ul,wpAny_standAt->Uo,clipAt->Ur,wpAny_field->Us,OsState->UD,starEach->UH,codeAny->UP,holding->US,FuncData->UW,sysModules->UX,Result->U4,backTo->U8,swapsWith->U9,DictEntry->Vd,wpAny_newObj_type->Vh,Model->Vp,wpAny_ite_split->VC,wpAny_setField->VF,Program->VQ,wpAny_rule->VW,truthy->V2,wpAny_call_entry->V4,clipAt->V7,Args->Wa,setFlight->Wh,StrKeys->Ww,binaryOp->Wy,CmpOp->WA,wpAny_callSpecial?_slot->WC,wpAny_isInstance->WD,seqIndex?->WE,setItem->WG,IsPart->WJ,getMethod->WK,standAt->WM,Const->WO,letOwnedTupleGo->WQ,assignEach->WV,relabel->WW,newFunctionEnv->WY,pushCells_keeps->W2,noteFrame->W3,dictPut->W5,subDict->W6,swappedStores->W8,wpAny_execs_nil->W9,bindArgs->Xc,Program->Xk,valueAt->Xn,compareOp->Xo,raiseNew->Xp,wpAny_load->Xq,wpAny_attempt->Xr,isSubtype_stop->Xs,wpAny_dictEntries->Xu,newList->Xw,codeAny_mono->Xx,getItem->Xz,valueOrNone->XI,evalOpt->XJ,pyIter->XN,wpAny_specialOf->XQ,mergeMapping->XS,execs->XW,recursionLimit->XY,treeTable->Yj,wpAny_truthy_bool->Yo,codeAny_builtin->Yu,updateField->Yv,IsRangeIter->Yy,wpAny_dictEpoch->Yz,ItemsOf->YB,plainId_quiet->YD,typeLookup->YE,wpAny_loadPart->YN,spliced->YO,wpAny_Compare1->YQ,evalArgs->YR,wpAny_call->YV,storeName->YZ,wpAny_alloc->Y5,callerA->Zi,denote->ZD,treeTable->ZE,wpAny_runValue->ZT,firstArgMember->ZU,slot_listiter_next->ZV,wpAny_seqItems->ZW,KeyKind->ZZ,wpAny_typeNameOfWhole_keyiter->Z1,wpAny_pyNext_list_item->Z2,wpAny_pyIter_listiter->Z3,wpAny_updateSeq->Z7,slot_list_setitem->aoS,slot_list_getitem->aoT,wpAny_list_append_plain->aoU,call_meetsIn->aoW,wpAny_pyIter_list->ao1,getMethod_builtin->ao5,findBy_of_findIdx?->ao7,wpAny_askSetting->ao8,wpAny_mkText->ao9,aRefKeyMayBeTheName_at->apb,wpAny_updatePart->apc,methodCallForm->api,wpAny_layCells->apn,cellsFrom_ok->apo,name_of_addr->aps,theTreesLotGoes->apt,wpAny_comprehension_free->apu,any_of_findIdx_some->apw,keys_map_store->apx,wpAny_onRaise->apG,exec->apJ,wpAny_Assign_Name->apL,wpAny_execs_cons->apO
open Bool renaming and_eq_true_iff->Sn,false_ne_true->Tc,or_eq_true->UA,or_true->UR,or_false->Vj,and_eq_true->Vr,false_or->V0,and_true->V1,and_false->V9,not_eq_true'->Wb,or_eq_false_iff->Wc,not_false->Xi,eq_iff_iff->Xl,false_eq_true->Xv,not_eq_true->XM,not_true->Yg,not_not->ZL,or_eq_true_iff->apg,true_and->aqm
open List renaming range->Sw,length_map->Sy,mem_cons_self->SI,mem_cons->SO,map->SP,replicate->SR,mem_map->SW,mem_cons_of_mem->S0,length_append->S4,getElem?_eq_getElem->S6,all_eq_true->S9,map_congr_left->Tg,lookup_cons->Tj,mem_singleton->Tp,getElem?_map->Tz,map_append->TA,mem_append->TQ,map_cons->TV,map_map->T4,filter_cons->T6,append_assoc->Ud,nodup_cons->Ui,range'->Uv,mem_filter->Ux,length_range->Uz,lookup->UB,map_eq_nil_iff->UI,mem_range->UM,append_nil->UU,getD_eq_getElem?_getD->U7,length_cons->Va,getElem?_eq_none->Vc,getElem?_append_left->Ve,getElem_mem->Vf,pairwise_cons->Vk,nodup_nil->Vl,mem_append_right->Vm,mem_append_left->Vn,getElem?_eq_some_iff->Vq,length_drop->Vu,length->Vx,length_pos_iff->Vy,forIn_cons->VL,pairwise_iff_getElem->VN,filterMap_eq_map'->VP,getElem?_set_ne->VU,length_zip->VZ,nodup_append->We,getElem?_range->Wj,length_range'->Wn,countP_cons->Ws,getElem?_cons_succ->Wv,length_set->Wx,length_filter_le->WI,take_length->WU,map_inj_left->Xd,concat_eq_append->Xg,isEmpty_iff->Xj,getElem_zip->Xm,any_eq_false->XD,drop_eq_getElem_cons->XO,nil_append->XT,map_drop->XU,mem_iff_getElem->X0,getElem?_append_right->X3,filterMap_cons->X5,filter_congr->X7,getElem?_take_of_lt->X8,getElem?_eq_none_iff->Ym,ext_getElem?->Yp,find?_cons->Yr,length_take->YJ,size_toArray->YK,forIn_nil->Y4,lookup_append->Y6,drop_eq_nil_of_le->Y8,any_eq_true->Y9,length_eq_zero_iff->Zb,take_append_drop->Zc,mem_filterMap->Ze,pairwise_map->Zl,getLast?_concat->Zm,all_map->Zo,range'_concat->Zs,filter_append->Zt,eq_nil_iff_forall_not_mem->Zz,countP_eq_length_filter->ZA,take_nil->ZI,drop_nil->ZJ,getElem?_concat_length->ZK,any_cons->ZQ,mem_map_of_mem->ZR,getElem_of_mem->ZS,find?->ao6,all_cons->ape,drop_zero->apk,getElem?_set->apr,range'_succ->apz,range_eq_range'->apB,cons_append->apF,mem_of_mem_drop->apI,take->apS,Nodup->apY,pairwise_filter->apZ,filter_eq_self->ap1,length_singleton->ap3,eq_nil_or_concat->ap4,pairwise_append->ap7,getElem_drop->ap8,mem_range'_1->aqa,drop_range'->aqf,map_take->aqi,getElem?_drop->aql,length_take_le->aqn
open Nat renaming lt_of_le_of_lt->Sz,beq->SA,le_trans->SG,lt_trans->SM,le_refl->SQ,le_of_not_lt->SS,le_add_right->SV,lt_of_lt_of_le->SX,blt->S8,le_of_eq->Te,le_succ_of_le->Th,le_of_lt->Tv,le_of_ble_eq_true->TF,not_lt->TL,le_succ->TM,succ_le_succ->TZ,lt_succ_self->T3,eq_of_beq_eq_true->T8,ne_of_lt->T9,zero_le->Um,zero_add->Uq,ble->UC,succ->UE,add_sub_cancel'->UJ,add_assoc->UN,add_right_comm->Vg,ne_of_gt->Vt,add_comm->Vv,beq_refl->Vz,le_of_lt_succ->VB,min_self->VD,add_le_add_left->VE,add_sub_cancel_left->VM,lt_irrefl->V5,sub_le->V8,lt_succ_of_lt->Wf,not_le->Wg,sub_self->Wi,sub_lt->Wk,lt_of_le_of_ne->Wl,mul_le_mul_left->Wr,succ_pos->WT,add_le_add_right->W4,add_le_add->W7,le_add_left->Xa,sub_lt_sub_left->XR,add_lt_add_left->XZ,mod_eq_of_lt->X9,one_mul->Yb,zero_lt_succ->Yx,lt_add_of_pos_right->YY,succ_add_eq_add_succ->Za,le_of_succ_le->Zg,lt_one_iff->Zj,add_left_cancel->Zk,succ_sub->Zr,sub_sub->Zy,lt_of_not_le->aoR,min_eq_left->apH,zero_lt_one->apT,sub_add_cancel->apV,sub_lt_sub_right->apW,lt_trichotomy->ap0,lt_or_eq_of_le->ap2,div_lt_self->ap6,pow_le_pow_right->ap9,lt_succ_of_le->aqb,le_total->aqe,mul_one->aqg,add_sub_of_le->aqh,ble_eq_true_of_le->aqj
open PySem.Str renaming ofString->SH
open Option.some renaming inj->SN,injEq->aq0
open PySem.Heap renaming get?_push_of_some->S7,ExtBut->Tn,get?_push_size->Tt,size_push->Uj,get?_update_self->Ut,lt_size->UG,get?_update_other->UO,SameBut->U5,get?_none_of_le->Vs,mk->ZG
open Ne renaming symm->Tf
open PySem.Value renaming none->Ti,ref->T7,type->VT,bytes->aoZ,bool->ao0,builtin->apA
open Int renaming natCast_nonneg->Tw,ofNat_lt->TH,le_trans->TX,toNat_natCast->Ug,le_refl->UK,le_of_lt->UQ,ofNat_le->UZ,not_lt->U3,lt_trans->VI,lt_of_le_of_lt->VV,lt_of_lt_of_le->V6,toNat_of_nonneg->Wm,negSucc->Wo,ne_of_gt->Wq,eq_ofNat_of_zero_le->WH,natCast_pos->Xh,not_le->Xy,fdiv_eq_ediv_of_nonneg->X6,emod_nonneg->Yc,emod_lt_of_pos->Yd,sub_zero->YX,fdiv->Zn,toNat->Zp,max_eq_right->Zu,negSucc_lt_zero->Zv,zero_add->Zw,add_comm->Zx,le_natAbs->ZM,le_antisymm->aoQ,add_zero->ao3,sub_nonpos_of_le->apj,ofNat_sub->ap5,min_eq_left->aqc,le_of_eq->aqd,negSucc_eq->aqk,lt_irrefl->aqo,le_add_of_nonneg_right->aqp
open PySem.W renaming findIn->TP,Frag->TU,boot_heap->T5,nsIn->Ub,SharedT->UL,instObj->VA,emptyDict->VJ,absHeap->VS,boot_drawn->Wt,boot_toks->Wu,keepIn->WL,onlyObject->XC,through->Yi,typeIs_bytes->YG,makesIn->YL,callWith_of->YT,keeps_K->YU,stepT->ZC
open UInt8 renaming ofNat->TS,toNat_ofNat'->Zq
open Option renaming map->Ua,none->Vb,map_some->Xf,bind_some->XG,map_eq_some_iff->X4,some->YF,isNone_iff_eq_none->YW,isSome_iff_exists->Y7
open Eq renaming refl->Ue,trans->WX
open PySem.Obj renaming mapSeq->Uu,mapFields->Uy,data_mapFields->V3,isFreed_of_fields->WB,putName->XE,cls_mapFields->Yw,isFreed_of_dict->Y0,data->Zd,data_mapDict->apv,data_mapDictKeys->apy,dict->apR
open Iff renaming rfl->Uw
open ForInStep renaming yield->UT
open Array renaming length_toList->UY,getElem?_toList->U0,getElem?_eq_getElem->VY,getElem?_eq_some_iff->Xb,getElem?_setIfInBounds_self_of_lt->XX,ext_getElem?->ZF,toList_push->aoV,not_mem_empty->ao4,any_eq_false'->apa
open PySem.Heap.SameBut renaming update->U1,refl->aqZ
open PyProof.Rows renaming seqObj->Vi,IntsAre->VG,subscriptTail->XA,sortedHeap->YA,Call_->YS,get?_update_seq->Z4,rangeSize_nat->ao2,Constant_none->apd,wpAny_releaseD->apN,floordiv_int->aqs,mod_int'->aqt,pow_int_small->aqu,lshift_int->aqv,rshift_int->aqw,and_int->aqx,or_int->aqy,getItem_tuple->aqT,len_tuple->aqU,callWith_type->aqX,slot_tuple_iter->aqY
open Prod renaming ext->Vo,mk->VO,fst->VX,snd->apm
open PySem.NameKind renaming cell->Vw,free->VK
open Nat.succ renaming inj->VH
open PySem.SeqAt renaming EqAt->Wz,RcNeAt->Yq,RcAt->ZP
open PUnit renaming unit->WR
open List.Pairwise renaming nil->WZ,sublist->aq1,imp->aq2
open List.cons renaming inj->Xe
open PySem.PyData renaming keyHash->XH
open PySem.Calls renaming Constant_str->XK,Name_function_global->apf,callWith_builtin->aph
open Int.ofNat renaming inj->Ye
open Decidable renaming byContradiction->Yh
open PySem.Challenge renaming pw_xw0276_01->Yk,rw_xw0276_01->aqq
open PySem.Builtin.Range renaming small->Yl,rangeFitsLong->YI,rangeSize->aqV
open PySem.Builtin renaming bitAnd->Yn,bitNot->ZN,bitOr->ZO
open PySem.EqBoolInt renaming of_rcne->Ys,of_rc->Yt
open PySem.Builtin.List renaming listExtendWith->YC,listSameRef->Z5,listSubscript?->aqS
open PySem.W.FB renaming slot_bytes_getitem->YH
open PySem.DictEntry renaming refKey->YM
open PySem.Env renaming kindOf->Y3
open PySem.F renaming excBase_Exception->Zf,slot_tuple_iterator_next->ZX,slot_range_iterator_next->ZY,slot_dict_keyiterator_next->Z0,plain_extend_loop->Z6,plain_list_iadd->Z9,slot_dict_pop->aoX,slot_dict_get->aoY
open PySem.Code renaming weight->Zh
open PySem.W.Fast renaming tw4187177175401517315->ZH
open PySem.Around renaming under_plainId->Z8
open PySem.ScopeKind renaming function->apl
open PySem.Heap.Ns renaming new->apq
open PySem.EntryCells renaming newEntry->apQ
open String renaming ofList->apU
open PySem.Builtin.Int renaming intBits->aqr
open PySem.Value.bool renaming inj->aqz
open PySem.Value.int renaming inj->aqA
open PySem.Value.bytes renaming inj->aqB
open PySem.SeqAt.RcAt renaming none_none->aqC,bool_bool->aqD,int_int->aqE,tuples->aqF,lists->aqL,lists_lengths->aqN
open PySem.SeqAt.RcNeAt renaming none_none->aqG,bool_bool->aqH,int_int->aqI,tuples->aqJ,lists->aqK,lists_lengths->aqM
open PySem.Value.ref renaming inj->aqO
open PySem.Builtin.Dict_items renaming ownsTuple->aqP
open List.Perm renaming swap->aqQ,eq_of_pairwise->aqR
open PySem.Heap.IsSliceOf renaming new->aqW
open List.Sublist renaming append_left->aq3
namespace cT
section
universe u v
theorem aC{p:Prop}[Decidable p](h:p):decide p=true:=decide_eq_true h
theorem aH{p:Prop}[Decidable p](h:¬p):decide p=false:=decide_eq_false h
theorem aG{c:Prop}{h:Decidable c}(hc:c){α:Sort u}{t e:α}:ite c t e=t:=if_pos hc
theorem aJ{c:Prop}{h:Decidable c}(hc:¬c){α:Sort u}{t e:α}:ite c t e=e:=if_neg hc
theorem bk{α:Sort u}{β:Sort v}{a b:α}(f:α→β)(h:a=b):f a=f b:=congrArg f h
end
end cT
namespace cT.Top
open PySem PySem.W PyProof.Rows
def O9(p:VQ)(w:Tu)(n₀:Nat)(ann:Option Value):Nat→UL→Thread→Option UL
 |0,_,_=>none
 |n+1,s,t=>match Yi t with
  |true=>some s
  |false=>match stepOk n₀ ann t with
   |false=>none
   |true=>match ZC (ZD ZE) p w s t with
    |some (s',t')=>O9 p w n₀ ann n s' t'
    |none=>none
theorem HW{p:VQ}{w:Tu}{n₀:Nat}{ann:Option Value}:∀{n:Nat} {s s':UL} {t:Thread},O9 p w n₀ ann n s t=some s'→topRun Yj p w n₀ ann n s.abs t=some s'.abs
 |0,_,_,_,h=>by cases h
 |n+1,s,s',t,h=>by
  unfold O9 at h;unfold topRun;cases ht:Yi t with
  |true=>rw[ht] at h;cases h;rfl
  |false=>
   rw[ht] at h;cases hk:stepOk n₀ ann t with
   |false=>rw[hk] at h;cases h
   |true=>
    rw[hk] at h;cases hs:ZC (ZD ZE) p w s t with
    |none=>rw[hs] at h;cases h
    |some r=>obtain⟨s₂,t₂⟩:=r;rw[hs] at h;rw[stepT_spec hs];exact HW h
noncomputable def aaw(p:VQ)(w:Tu)(n₀:Nat)(ann:Option Value):Nat→UL→Thread→Option UL
 |0,_,_=>none
 |n+1,s,t=>match Yi t with
  |true=>some s
  |false=>match Fast.tw6613529449190102663 n₀ ann t with
   |false=>none
   |true=>match Fast.tw10156331382660048174 (Fast.tw11892475500146522536 Fast.tw14364793385576792824) p w s t with
    |some (s',t')=>aaw p w n₀ ann n s' t'
    |none=>none
theorem aeF: @O9= @aaw:=by
 funext p w n₀ ann n
 induction n with
 |zero=>rfl
 |succ n ih=>
  funext s t
  unfold O9 aaw;rw[Fast.te6613529449190102663,Fast.te10156331382660048174,Fast.te11892475500146522536,Fast.te14364793385576792824,ih]
mutual
def tB:List SK→List SK
 |[]=>[]
 |a::l=>a::uX l
def uX:List SK→List SK
 |[]=>[]
 |_::l=>tB l
end
def Lv:Nat→List SK→BT
 |0,_=> .nil
 |_+1,[]=> .nil
 |k+1,o::r=> .node o (Lv k (tB r)) (Lv k (uX r))
noncomputable def start(w:Tu)(os:UD):UL:=⟨Lv 12 (T5 w.params).objs.toList,(T5 w.params).objs.size,(T5 w.params).life,#[],Wt,Wu,os⟩
theorem Ii:∀(l:List SK) (j:Nat),(tB l)[j]? =l[2*j]? ∧(uX l)[j]? =l[2*j+1]?
 |[],j=>⟨by rw[tB];simp,by rw[uX];simp⟩
 |a::l,j=>by
  constructor
  ·rw[tB]
   cases j with
   |zero=>rfl
   |succ j=>rw[Wv,(Ii l j).2,show 2*(j+1)=(2*j+1)+1 from by omega,Wv]
  ·rw[uX,(Ii l j).1,Wv]
theorem BX:∀(l:List SK),(tB l).length=(l.length+1)/2∧(uX l).length=l.length/2
 |[]=>⟨by rw[tB];rfl,by rw[uX];rfl⟩
 |a::l=>by rw[tB,uX,Va,(BX l).2,(BX l).1,Va];exact⟨by omega,by omega⟩
theorem BC:∀(k:Nat) (l:List SK),l.length<2^k→∀i,(Lv k l).get i=l[i]?
 |0,l,h,i=>by have:l=[]:=List.eq_nil_of_length_eq_zero (by simpa using h);subst this;rw[Lv];simp[BT.get]
 |k+1,[],h,i=>by rw[Lv];simp[BT.get]
 |k+1,o::r,h,i=>by
  rw[Va] at h;have h2:2^(k+1)=2^k+2^k:=by rw[Nat.pow_succ];omega
  rw[Lv,BT.get_node,BC k (tB r) (by rw[(BX r).1];omega),BC k (uX r) (by rw[(BX r).2];omega)];by_cases h0:i=0
  ·subst h0;rfl
  ·rw[aJ h0]
   by_cases h1:i%2=1
   ·rw[aG h1,(Ii r _).1,show i=2*(i/2)+1 from by omega,Wv]
    congr 1;omega
   ·rw[aJ h1,(Ii r _).2,show i=(2*(i/2-1)+1)+1 from by omega,Wv]
    congr 1;omega
theorem QA{k:Nat}{h:S2}(hl:h.objs.size<2^k):VS (Lv k h.objs.toList) h.objs.size h.life=h:=by
 have:(VS (Lv k h.objs.toList) h.objs.size h.life).objs=h.objs:=by
  apply ZF;intro i;rw[absHeap_at,BC k _ (by simpa using hl)];by_cases c:i<h.objs.size
  ·rw[aG c];simp[c]
  ·rw[aJ c];simp[SS c]
 show ZG _ _=_;have e:(VS (Lv k h.objs.toList) h.objs.size h.life)=⟨(VS (Lv k h.objs.toList) h.objs.size h.life).objs,h.life⟩:=rfl;rw[show ZG _ _=VS (Lv k h.objs.toList) h.objs.size h.life from rfl,e,this]
theorem Kl{w:Tu}{os:UD}(hl:S8 (T5 w.params).objs.size (2^12)=true):(start w os).abs=⟨T5 w.params,#[],Wt,Wu,os⟩:=by unfold start SharedT.abs;dsimp only;rw[QA (by have:=TF hl;omega)]
abbrev pw:VQ:=Yk
noncomputable def qw:VQ:=view pw [0,2,3,4,5,6,7,8,9,11,12,13,14,15,16,17,19,20,21,22,23,24,25,26,27,28,29,30,31,32,34,35,36,37,38,39,40,41,42,43,44,45,46,48,49,50,51,52,53,54,55,56,57,58,59,61,62,63,64,65,66,67,68,69,70,71,72,73,74,75,76,77,78,79]
noncomputable abbrev xt(s:Sl):Bool:=xlAt qw [] s&&recOk [] s
noncomputable def fin(w:Tu)(os:UD):Option UL:=aaw pw w 11 ((T5 w.params).nsMap TG "__annotations__") 15770 (start w os) (topStub pw)
noncomputable def bools(w:Tu)(s:UL):Bool:=staticsOk [] (T5 w.params) s.abs.heap&&namesBound pw s.abs.heap&&gensDone s.abs&&laidKept (T5 w.params) s.abs.heap
noncomputable abbrev sees(s:UL):=ZH qw [] [] xt true s.abs
theorem abQ(w:Tu)(os:UD):(fin w os).map (λs=>((sees s).1,(sees s).2.1))=some (expectedOf qw,bltViewBooted):=by kernel_rfl
theorem acC(w:Tu)(os:UD):(fin w os).map (λs=>((sees s).2.2.1,bools w s))=some (true,true):=by kernel_rfl
theorem ad1(w:Tu)(os:UD):(fin w os).map (λs=>((sees s).2.2.2.1,(sees s).2.2.2.2.1))=some (true,pinGoodD (drecsOf qw)):=by kernel_rfl
theorem look_4(w:Tu)(os:UD):(fin w os).map (λs=>((sees s).2.2.2.2.2.2.1,(sees s).2.2.2.2.2.2.2.1,(sees s).2.2.2.2.2.2.2.2))=some (plainGoodD qw [],wideGood qw,clsGoodW qw []):=by kernel_rfl
theorem good_e:plainGoodE qw (looseW qw [])=(Fast.tw210736558901404530 qw (Fast.tw821141287760084731 qw [])).map (λc=>some c.withCmp.plainShape):=by rw[plainGoodE,Fast.te210736558901404530,Fast.te821141287760084731]
theorem adw(w:Tu)(os:UD):(fin w os).map (λs=>(ZH qw [] [] xt true s.abs).2.2.2.2.2.1)=some (plainGoodE qw (looseW qw [])):=by rw[good_e];kernel_rfl
end cT.Top
namespace cT
inductive KK where
 |int|str|bytes
 deriving DecidableEq
set_option genInjectivity true in
inductive V where
 |af|none
 |bool (b:Bool)
 |int (i:Int)
 |str (n:Nat)
 |bytes (b:List UInt8)
 |bJ (l:List V)
 |range (lo hi:Int)
 |ref (a:Nat)
theorem no{α:Type}{a:α}{C:Prop}(h:Vb=some a):C:=nomatch h
theorem gg{C:Prop}(h:false=true):C:=nomatch h
theorem so{α β:Type}{a b:α}(f:α→β)(h:some a=some b):f a=f b:=bk f (SN h)
def V.iE:V→Option Nat|.ref a=>some a|_=>Vb
def V.fk:V→Option Int|.int a=>some a|_=>Vb
def V.zh:V→Option Bool|.bool a=>some a|_=>Vb
def V.sX:V→Option (List UInt8)|.bytes a=>some a|_=>Vb
def V.Pj:V→Option (List V)|.bJ a=>some a|_=>Vb
def V.LN:V→Option Nat|.str a=>some a|_=>Vb
def V.Jk:V→Option (Int×Int)|.range a b=>some (a,b)|_=>Vb
def V.isNone:V→Bool|.none=>true|_=>false
def V.tL:V→Bool|.af=>true|_=>false
theorem V.BF{v:V}{a:Nat}(h:v.iE=some a):v=.ref a:=by cases v<;>first|exact no h|exact so V.ref h
theorem V.r7{v:V}{a:Int}(h:v.fk=some a):v=.int a:=by cases v<;>first|exact no h|exact so V.int h
theorem V.xr{v:V}{a:Bool}(h:v.zh=some a):v=.bool a:=by cases v<;>first|exact no h|exact so V.bool h
theorem V.t8{v:V}{a:List UInt8}(h:v.sX=some a):v=.bytes a:=by cases v<;>first|exact no h|exact so V.bytes h
theorem V.ON{v:V}{a:List V}(h:v.Pj=some a):v=.bJ a:=by cases v<;>first|exact no h|exact so V.bJ h
theorem V.PM{v:V}{a:Nat}(h:v.LN=some a):v=.str a:=by cases v<;>first|exact no h|exact so V.str h
theorem V.Nf{v:V}{a b:Int}(h:v.Jk=some (a,b)):v=.range a b:=by cases v<;>first|exact no h|exact so (λp=>V.range p.1 p.2) h
theorem V.of_none{v:V}(h:v.isNone=true):v=.none:=by cases v<;>first|rfl|exact gg h
theorem V.Pn{v:V}(h:v.tL=true):v=.af:=by cases v<;>first|rfl|exact gg h
def isSome{α:Type}(x:Option α)(p:α→Bool):Bool:=match x with
 |some a=>p a
 |none=>false
theorem dB{α:Type}{x:Option α}{p:α→Bool}(h:isSome x p=true):∃a,x=some a∧p a=true:=match x,h with
 |some a,h=>⟨a,rfl,h⟩
mutual
def V.beq:V→V→Bool
 |.af,b=>b.tL
 |.none,b=>b.isNone
 |.bool a,b=>isSome b.zh λb=>a==b
 |.int a,b=>isSome b.fk λb=>decide (a=b)
 |.str a,b=>isSome b.LN λb=>SA a b
 |.bytes a,b=>isSome b.sX λb=>decide (a=b)
 |.bJ a,b=>isSome b.Pj λb=>V.Qy a b
 |.range a c,b=>isSome b.Jk λp=>decide ((a,c)=p)
 |.ref a,b=>isSome b.iE λb=>SA a b
def V.Qy:List V→List V→Bool
 |[],b=>b.isEmpty
 |a::as,b=>match b with
  |[]=>false
  |b::bs=>V.beq a b&&V.Qy as bs
end
mutual
theorem V.Nl:∀a b:V,V.beq a b=true→a=b
 |.af,b,h=>(V.Pn h).symm
 |.none,b,h=>(V.of_none h).symm
 |.bool a,b,h=>by obtain⟨c,e,h⟩:=dB h;rw[V.xr e,eq_of_beq h]
 |.int a,b,h=>by obtain⟨c,e,h⟩:=dB h;rw[V.r7 e,of_decide_eq_true h]
 |.str a,b,h=>by obtain⟨c,e,h⟩:=dB h;rw[V.PM e,T8 h]
 |.bytes a,b,h=>by obtain⟨c,e,h⟩:=dB h;rw[V.t8 e,of_decide_eq_true h]
 |.bJ a,b,h=>by obtain⟨c,e,h⟩:=dB h;rw[V.ON e,V.Jh a c h]
 |.range a c,b,h=>by obtain⟨p,e,h⟩:=dB h;cases of_decide_eq_true h;rw[V.Nf e]
 |.ref a,b,h=>by obtain⟨c,e,h⟩:=dB h;rw[V.BF e,T8 h]
theorem V.Jh:∀a b:List V,V.Qy a b=true→a=b
 |[],b,h=>(Xj.mp h).symm
 |a::as,[],h=>nomatch h
 |a::as,b::bs,h=>by obtain⟨h1,h2⟩:=Sn.mp h;rw[V.Nl a b h1,V.Jh as bs h2]
end
mutual
theorem V.D4:∀a:V,V.beq a a=true
 |.af=>rfl
 |.none=>rfl
 |.bool a=>beq_self_eq_true a
 |.int a=>aC rfl
 |.str a=>Vz a
 |.bytes a=>aC rfl
 |.bJ a=>V.Aq a
 |.range a c=>aC rfl
 |.ref a=>Vz a
theorem V.Aq:∀a:List V,V.Qy a a=true
 |[]=>rfl
 |a::as=>Sn.mpr ⟨V.D4 a,V.Aq as⟩
end
instance:DecidableEq V:= λa b=>decidable_of_bool (V.beq a b) ⟨V.Nl a b,λe=>e▸V.D4 a⟩
mutual
noncomputable def V.pure:V→Bool
 |.ref _=>false
 |.af=>false
 |.bJ l=>V.jm l
 |_=>true
noncomputable def V.jm:List V→Bool
 |[]=>true
 |v::l=>V.pure v&&V.jm l
end
noncomputable def V.aah(g:List V→List V→Bool)(a b:V):Bool:=match a with
 |.none=>b.isNone
 |.bool _=>b.zh.isSome
 |.int _=>b.fk.isSome
 |.bytes _=>b.sX.isSome
 |.bJ l=>isSome b.Pj (g l)
 |_=>false
noncomputable def V.bT:Nat→V→V→Bool
 |0=>V.aah λ_ _=>false
 |n+1=>V.aah λl l'=>(l.zip l').all λp=>V.bT n p.1 p.2
noncomputable def Fn:=Nat
instance:DecidableEq Fn:=inferInstanceAs (DecidableEq Nat)
namespace Fn
noncomputable def mw:Fn:=(0:Nat)
noncomputable def jW:Fn:=(1:Nat)
noncomputable def kY:Fn:=(2:Nat)
noncomputable def oA:Fn:=(3:Nat)
noncomputable def gq:Fn:=(4:Nat)
noncomputable def rI:Fn:=(5:Nat)
noncomputable def AU:Fn:=(6:Nat)
noncomputable def oM:Fn:=(7:Nat)
noncomputable def gu:Fn:=(8:Nat)
noncomputable def o5:Fn:=(9:Nat)
noncomputable def cA:Fn:=(10:Nat)
noncomputable def cB:Fn:=(11:Nat)
noncomputable def fh:Fn:=(12:Nat)
noncomputable def eX:Fn:=(13:Nat)
noncomputable def Dh:Fn:=(14:Nat)
noncomputable def Gp:Fn:=(15:Nat)
noncomputable def EO:Fn:=(16:Nat)
noncomputable def oN:Fn:=(17:Nat)
noncomputable def pW:Fn:=(18:Nat)
noncomputable def eS:Fn:=(19:Nat)
noncomputable def f9:Fn:=(20:Nat)
noncomputable def gm:Fn:=(21:Nat)
noncomputable def gy:Fn:=(22:Nat)
noncomputable def fE:Fn:=(23:Nat)
noncomputable def di:Fn:=(24:Nat)
noncomputable def Dr:Fn:=(25:Nat)
noncomputable def without:Fn:=(26:Nat)
noncomputable def gn:Fn:=(27:Nat)
noncomputable def B5:Fn:=(28:Nat)
noncomputable def br:Fn:=(29:Nat)
noncomputable def cS:Fn:=(30:Nat)
noncomputable def dY:Fn:=(31:Nat)
noncomputable def dj:Fn:=(32:Nat)
noncomputable def aW:Fn:=(33:Nat)
noncomputable def dX:Fn:=(34:Nat)
noncomputable def bF:Fn:=(35:Nat)
noncomputable def e9:Fn:=(36:Nat)
noncomputable def bG:Fn:=(37:Nat)
noncomputable def yS:Fn:=(38:Nat)
noncomputable def M6:Fn:=(39:Nat)
noncomputable def pB:Fn:=(40:Nat)
noncomputable def p9:Fn:=(41:Nat)
noncomputable def jL:Fn:=(42:Nat)
noncomputable def Ad:Fn:=(43:Nat)
noncomputable def jy:Fn:=(44:Nat)
noncomputable def gR:Fn:=(45:Nat)
noncomputable def ia:Fn:=(46:Nat)
noncomputable def jr:Fn:=(47:Nat)
noncomputable def i7:Fn:=(48:Nat)
noncomputable def kq:Fn:=(49:Nat)
noncomputable def kD:Fn:=(50:Nat)
noncomputable def fU:Fn:=(51:Nat)
noncomputable def iQ:Fn:=(52:Nat)
noncomputable def s9:Fn:=(53:Nat)
noncomputable def qT:Fn:=(54:Nat)
noncomputable def bB:Fn:=(55:Nat)
noncomputable def fD:Fn:=(56:Nat)
noncomputable def eL:Fn:=(57:Nat)
noncomputable def cE:Fn:=(58:Nat)
noncomputable def kN:Fn:=(59:Nat)
noncomputable def vZ:Fn:=(60:Nat)
noncomputable def zq:Fn:=(61:Nat)
noncomputable def yv:Fn:=(62:Nat)
noncomputable def j5:Fn:=(63:Nat)
noncomputable def lG:Fn:=(64:Nat)
noncomputable def qZ:Fn:=(65:Nat)
noncomputable def jQ:Fn:=(66:Nat)
noncomputable def qX:Fn:=(67:Nat)
noncomputable def sW:Fn:=(68:Nat)
noncomputable def sF:Fn:=(69:Nat)
noncomputable def c7:Fn:=(70:Nat)
noncomputable def jq:Fn:=(71:Nat)
noncomputable def fH:Fn:=(72:Nat)
noncomputable def eH:Fn:=(73:Nat)
noncomputable def b9:Fn:=(74:Nat)
noncomputable def lJ:Fn:=(75:Nat)
noncomputable def fR:Fn:=(76:Nat)
noncomputable def jB:Fn:=(77:Nat)
noncomputable def gz:Fn:=(78:Nat)
noncomputable def aK:Fn:=(79:Nat)
noncomputable def cN:Fn:=(80:Nat)
noncomputable def cg:Fn:=(81:Nat)
noncomputable def ee:Fn:=(82:Nat)
noncomputable def gk:Fn:=(83:Nat)
noncomputable def nG:Fn:=(84:Nat)
noncomputable def dG:Fn:=(85:Nat)
noncomputable def jU:Fn:=(86:Nat)
noncomputable def lu:Fn:=(87:Nat)
noncomputable def fP:Fn:=(88:Nat)
noncomputable def gr:Fn:=(89:Nat)
noncomputable def dh:Fn:=(90:Nat)
noncomputable def law:Fn:=(91:Nat)
end Fn
noncomputable def Gl:=Nat
instance:DecidableEq Gl:=inferInstanceAs (DecidableEq Nat)
namespace Gl
noncomputable def DO:Gl:=(0:Nat)
noncomputable def Nz:Gl:=(1:Nat)
noncomputable def acn:Gl:=(2:Nat)
noncomputable def Eu:Gl:=(3:Nat)
noncomputable def LP:Gl:=(4:Nat)
noncomputable def abu:Gl:=(5:Nat)
noncomputable def Ov:Gl:=(6:Nat)
noncomputable def aco:Gl:=(7:Nat)
noncomputable def yF:Gl:=(8:Nat)
noncomputable def af7:Gl:=(9:Nat)
noncomputable def NX:Gl:=(10:Nat)
noncomputable def agH:Gl:=(11:Nat)
noncomputable def EF:Gl:=(12:Nat)
noncomputable def JP:Gl:=(13:Nat)
noncomputable def LJ:Gl:=(14:Nat)
noncomputable def Dg:Gl:=(15:Nat)
noncomputable def ju:Gl:=(16:Nat)
noncomputable def kP:Gl:=(17:Nat)
noncomputable def nB:Gl:=(18:Nat)
end Gl
noncomputable def jn:=Nat
instance:DecidableEq jn:=inferInstanceAs (DecidableEq Nat)
namespace jn
noncomputable def A9:jn:=(0:Nat)
noncomputable def oE:jn:=(1:Nat)
noncomputable def eW:jn:=(2:Nat)
noncomputable def dD:jn:=(3:Nat)
noncomputable def gh:jn:=(4:Nat)
noncomputable def nF:jn:=(5:Nat)
noncomputable def jX:jn:=(6:Nat)
noncomputable def cX:jn:=(7:Nat)
noncomputable def xP:jn:=(8:Nat)
noncomputable def kr:jn:=(9:Nat)
noncomputable def fO:jn:=(10:Nat)
end jn
noncomputable def At:=Nat
instance:DecidableEq At:=inferInstanceAs (DecidableEq Nat)
namespace At
noncomputable def M0:At:=(0:Nat)
noncomputable def yd:At:=(1:Nat)
noncomputable def I0:At:=(2:Nat)
noncomputable def xB:At:=(3:Nat)
noncomputable def uw:At:=(4:Nat)
noncomputable def n5:At:=(5:Nat)
noncomputable def fM:At:=(6:Nat)
noncomputable def iA:At:=(7:Nat)
noncomputable def iN:At:=(8:Nat)
noncomputable def lq:At:=(9:Nat)
noncomputable def oQ:At:=(10:Nat)
noncomputable def gj:At:=(11:Nat)
noncomputable def gG:At:=(12:Nat)
noncomputable def sL:At:=(13:Nat)
noncomputable def iF:At:=(14:Nat)
noncomputable def b6:At:=(15:Nat)
noncomputable def jt:At:=(16:Nat)
noncomputable def uF:At:=(17:Nat)
noncomputable def xN:At:=(18:Nat)
noncomputable def k6:At:=(19:Nat)
noncomputable def fT:At:=(20:Nat)
noncomputable def jD:At:=(21:Nat)
noncomputable def ic:At:=(22:Nat)
noncomputable def Cd:At:=(23:Nat)
noncomputable def Ic:At:=(24:Nat)
noncomputable def uD:At:=(25:Nat)
noncomputable def dZ:At:=(26:Nat)
noncomputable def HG:At:=(27:Nat)
noncomputable def gK:At:=(28:Nat)
noncomputable def xK:At:=(29:Nat)
noncomputable def Bt:At:=(30:Nat)
noncomputable def AP:At:=(31:Nat)
noncomputable def ir:At:=(32:Nat)
noncomputable def mj:At:=(33:Nat)
noncomputable def oK:At:=(34:Nat)
noncomputable def qa:At:=(35:Nat)
noncomputable def lM:At:=(36:Nat)
noncomputable def nW:At:=(37:Nat)
noncomputable def cu:At:=(38:Nat)
noncomputable def bE:At:=(39:Nat)
noncomputable def fS:At:=(40:Nat)
noncomputable def oi:At:=(41:Nat)
noncomputable def lA:At:=(42:Nat)
noncomputable def oF:At:=(43:Nat)
noncomputable def oS:At:=(44:Nat)
noncomputable def cR:At:=(45:Nat)
noncomputable def bW:At:=(46:Nat)
noncomputable def lT:At:=(47:Nat)
noncomputable def qI:At:=(48:Nat)
noncomputable def ql:At:=(49:Nat)
noncomputable def qg:At:=(50:Nat)
noncomputable def lU:At:=(51:Nat)
noncomputable def cI:At:=(52:Nat)
noncomputable def eG:At:=(53:Nat)
noncomputable def d7:At:=(54:Nat)
noncomputable def bL:At:=(55:Nat)
noncomputable def gO:At:=(56:Nat)
noncomputable def j9:At:=(57:Nat)
noncomputable def dH:At:=(58:Nat)
noncomputable def mR:At:=(59:Nat)
noncomputable def sU:At:=(60:Nat)
noncomputable def jH:At:=(61:Nat)
noncomputable def t7:At:=(62:Nat)
noncomputable def Bk:At:=(63:Nat)
noncomputable def mT:At:=(64:Nat)
noncomputable def GC:At:=(65:Nat)
noncomputable def ie:At:=(66:Nat)
noncomputable def FQ:At:=(67:Nat)
noncomputable def iO:At:=(68:Nat)
noncomputable def yR:At:=(69:Nat)
noncomputable def xM:At:=(70:Nat)
noncomputable def r5:At:=(71:Nat)
noncomputable def oJ:At:=(72:Nat)
noncomputable def mL:At:=(73:Nat)
noncomputable def wR:At:=(74:Nat)
noncomputable def xx:At:=(75:Nat)
noncomputable def xC:At:=(76:Nat)
noncomputable def Bs:At:=(77:Nat)
noncomputable def pV:At:=(78:Nat)
noncomputable def GS:At:=(79:Nat)
noncomputable def RC:At:=(80:Nat)
noncomputable def cH:At:=(81:Nat)
noncomputable def qB:At:=(82:Nat)
noncomputable def uS:At:=(83:Nat)
noncomputable def uq:At:=(84:Nat)
noncomputable def cy:At:=(85:Nat)
noncomputable def f6:At:=(86:Nat)
end At
inductive O where
 |list (l:List V)
 |bare (l:List V)
 |dict (k:KK) (es:List (V×V))
 |inst (c:jn) (fs:List (At×V))
 |aM
 deriving DecidableEq
noncomputable def O.OC:O→Option (List V)|.list l=>some l|_=>none
noncomputable def O.Ft:O→Option (KK×List (V×V))|.dict k es=>some (k,es)|_=>none
noncomputable def O.Pu:O→Option (jn×List (At×V))|.inst c fs=>some (c,fs)|_=>none
noncomputable def O.live:O→Bool|.aM=>false|_=>true
theorem O.fG{o:O}{l:List V}(h:o.OC=some l):o=.list l:=by cases o<;>first|exact no h|exact so O.list h
theorem O.qv{o:O}{k:KK}{es:List (V×V)}(h:o.Ft=some (k,es)):o=.dict k es:=by cases o<;>first|exact no h|exact so (λp=>O.dict p.1 p.2) h
theorem O.of_inst{o:O}{c:jn}{fs:List (At×V)}(h:o.Pu=some (c,fs)):o=.inst c fs:=by cases o<;>first|exact no h|exact so (λp=>O.inst p.1 p.2) h
noncomputable abbrev ai:=List O
noncomputable def ai.get(m:ai)(a:Nat):Option O:=m[a]?
noncomputable def ai.next(m:ai):Nat:=m.length
noncomputable def ai.push(m:ai)(o:O):ai:=m++[o]
noncomputable def ai.xd(m:ai)(a:Nat)(o:O):ai:=m.set a o
noncomputable def ai.live(m:ai)(a:Nat):Bool:=match m.get a with
 |some o=>o.live
 |none=>false
noncomputable def ai.o8(m:ai)(a:Nat):Option (List V):=(m.get a).bind O.OC
noncomputable def ai.Jl(m:ai)(a:Nat):Option (KK×List (V×V)):=(m.get a).bind O.Ft
noncomputable def ai.D3(m:ai)(a:Nat):Option (jn×List (At×V)):=(m.get a).bind O.Pu
theorem bind_some{α β:Type}{x:Option α}{f:α→Option β}{b:β}(h:x.bind f=some b):∃a,x=some a∧f a=some b:=match x,h with
 |some a,h=>⟨a,rfl,h⟩
theorem map_some{α β:Type}{x:Option α}{f:α→β}{b:β}(h:x.map f=some b):∃a,x=some a∧f a=b:=match x,h with
 |some a,h=>⟨a,rfl,SN h⟩
theorem oV{β:Type}{p:Prop}[d:Decidable p]{x:Option β}{b:β}(h:(if p then x else none)=some b):p∧x=some b:=match d,h with
 |.isTrue hp,h=>⟨hp,h⟩
 |.isFalse _,h=>nomatch h
theorem aD{α β:Type}{G:Prop}{x:Option α}{f:α→Option β}{b:β}(h:x.bind f=some b)(k:∀a,x=some a→f a=some b→G):G:=match x,h,k with
 |some a,h,k=>k a rfl h
theorem dm{α β:Type}{G:Prop}{x:Option α}{f:α→β}{b:β}(h:x.map f=some b)(k:∀a,x=some a→b=f a→G):G:=match x,h,k with
 |some a,h,k=>k a rfl (SN h).symm
theorem ai.fG{m:ai}{a:Nat}{l:List V}(h:m.o8 a=some l):m.get a=some (.list l):=by obtain⟨o,e,h⟩:=bind_some h;rw[e,O.fG h]
theorem ai.qv{m:ai}{a:Nat}{k:KK}{es:List (V×V)}(h:m.Jl a=some (k,es)):m.get a=some (.dict k es):=by obtain⟨o,e,h⟩:=bind_some h;rw[e,O.qv h]
theorem ai.of_inst{m:ai}{a:Nat}{c:jn}{fs:List (At×V)}(h:m.D3 a=some (c,fs)):m.get a=some (.inst c fs):=by obtain⟨o,e,h⟩:=bind_some h;rw[e,O.of_inst h]
inductive Op where
 |add|sub|mul|fdiv|qA|pow|shl|shr|Hg|bor
inductive Cop where
 |eq|ne|lt|le|gt|ge|mem|pI
inductive nO where
 |aA (k:Nat)
 |iJ (ks:List Nat)
inductive Gc where
 |bS|fresh|keep
inductive Bi where
 |len|sorted|range|max|bytes|tuple|all
inductive Me where
 |append|get|pop
mutual
inductive E where
 |stuck
 |zv (k:Nat)
 |zl (v:V)
 |dI (g:Gl)
 |cW (op:Op) (a b:E)
 |cmp (op:Cop) (a b:E)
 |not (a:E)
 |neg (a:E)
 |and (es:Es)
 |or (es:Es)
 |ite (c t e:E)
 |nq (a:E)
 |vR (a:E)
 |attr (x:At) (o:E)
 |idx (o i:E)
 |slice (o:E) (lo hi:Es)
 |list (es:Es)
 |bJ (es:Es)
 |pQ (k:KK)
 |dict (ks:List Nat) (vs:Es)
 |comp (t:nO) (it:E) (cs:Es) (el:E)
 |bi (f:Bi) (args:Es)
 |me (f:Me) (o:E) (args:Es)
 |new (c:jn) (args:Es)
 |call (f:Fn) (args:Es)
 |aU (f:Fn) (c:jn) (x:At) (o:E) (args:Es)
inductive Es where
 |zn
 |zc (e:E) (es:Es)
end
mutual
inductive S where
 |stuck|P8|cont|tV|kh
 |ret (e:E)
 |expr (e:E)
 |assign (k:Nat) (e:E)
 |unpack (ks:List Nat) (e:E)
 |setAttr (o:E) (x:At) (e:E)
 |cG (o i e:E)
 |Lq (k:Nat) (op:Op) (e:E)
 |qx (o:E) (x:At) (op:Op) (e:E)
 |rD (o i:E) (op:Op) (e:E)
 |cO (c:E) (t e:Ss)
 |iH (t:nO) (it:E) (body:Ss) (bf:List Nat)
 |rR (c:E) (body:Ss) (bf:List Nat)
 |JX (k:Nat) (e:E) (h:Ss)
inductive Ss where
 |zn
 |zc (s:S) (ss:Ss)
end
structure aN where
 nargs:Nat
 Bg:Nat
 gc:Gc
 body:Ss
noncomputable def Gl.val(x:Gl):Int:=([3,0,0,2,1,1,4294967295,18446744073709551615,15,0,18446744073709551615,0,1,1,2,2,2,1,3]:List Int).getD x 0
noncomputable def Gl.name(x:Gl):String:=(["ADD_LEARNER","ADD_NODE","AUTO","EXPLICIT","IMPLICIT","LEASE","MAX_32","MAX_64","MSG_READ_INDEX","NONE","NO_LIMIT","PROBE","REMOVE_NODE","REPLICATE","SNAPSHOT","UPDATE_NODE","VOTE_LOST","VOTE_PENDING","VOTE_WON"]:List String).getD x ""
noncomputable def jn.name(x:jn):String:=(["Entry","Message","ConfChange","Config","Changer","Inflights","Progress","Tracker","ReadStatus","Lease","ReadOnly"]:List String).getD x ""
noncomputable def At.name(x:At):String:=(["ack","acks","add","adopt","advance","all_voters","auto_leave","become_replicate","become_snapshot","changes","check","checked_copy","clock","commit","committed","config","context","copy","data","do_changes","enter_joint","entries","flow_paused","fresh","frm","give_up","given_up","hear","heard","held","holds","ids","index","inflights","joint","kind","last_context","learner","learners","learners_next","leave_joint","log_term","make_learner","make_voter","match","max_inflight","max_octets","maybe_update","members","message","octets","option","outgoing","pending","pending_snapshot","progress","queue","quorum_active","recent_active","record_vote","reject","reject_hint","remove","reset","reset_votes","ring","row","rows","serial","simple","single","size","snapshot","span","stamp","start","state","tally","term","tick","to","transition","turn_to","upto","vote","voters","votes"]:List String).getD x ""
noncomputable def gE(x:Nat):String:=(["now","was","said","reads","names","gone","asked","story","clock","span","over","lease","tracker","auto","known","votes","last","changes","beats"]:List String).getD x ""
noncomputable def jn.CQ(x:jn):Fn:=([.rI,.oM,.o5,.EO,.B5,.yS,.Ad,.s9,.vZ,.zq,.qX]:List Fn).getD x .law
noncomputable def jn.meths(x:jn):List At:=([[.uF,.ie,.r5],[.uF,.ie],[.fT,.fS,.ie],[.n5,.oQ,.iF,.uF,.oK,.qI,.ie,.uq],[.gj,.k6,.fT,.fS,.lA,.oF,.t7,.yR],[.I0,.Bk,.ie,.FQ],[.iA,.iN,.lT,.ie,.qB],[.xB,.iF,.Cd,.AP,.j9,.mR,.mT,.ie,.xM,.Bs],[],[.uD,.HG,.Bt,.wR,.GS],[.M0,.I0,.uw,.lM,.ie]]:List (List At)).getD x []
noncomputable def jn.fns(x:jn):List (At×Fn):=([[(.ie,.AU)],[(.ie,.gu)],[(.fT,.cA),(.fS,.cB)],[(.n5,.f9),(.oQ,.di),(.iF,.gy),(.uF,.pW),(.oK,.eS),(.qI,.gm),(.ie,.oN),(.uq,.fE)],[(.gj,.dj),(.k6,.aW),(.fT,.br),(.fS,.cS),(.lA,.bF),(.oF,.dX),(.t7,.e9),(.yR,.dY)],[(.Bk,.pB),(.ie,.jL),(.FQ,.p9)],[(.iA,.gR),(.iN,.ia),(.lT,.jr),(.ie,.i7),(.qB,.jy)],[(.xB,.bB),(.iF,.eL),(.Cd,.qT),(.AP,.fD),(.j9,.cE),(.mR,.kq),(.mT,.kD),(.xM,.iQ),(.Bs,.fU)],[],[(.uD,.qZ),(.HG,.lG),(.Bt,.jQ),(.wR,.j5),(.GS,.yv)],[(.M0,.sF),(.I0,.sW),(.uw,.c7),(.lM,.jq),(.ie,.fH)]]:List (List (At×Fn))).getD x []
noncomputable def jn.pZ(c:jn)(x:At):Bool:=c.meths.contains x
noncomputable def jn.BZ(c:jn)(x:At):Option Fn:=c.fns.lookup x
noncomputable def Fn.qual(x:Fn):String:=(["put_fixed32","put_fixed64","read_fixed32","read_fixed64","rising","Entry.__init__","Entry.row","Message.__init__","Message.row","ConfChange.__init__","ConfChange.enter_joint","ConfChange.leave_joint","majority_index","majority_vote","joint_index","joint_vote","Config.__init__","Config.row","Config.copy","Config.joint","Config.all_voters","Config.members","Config.committed","Config.vote","Config.check","added","without","count_apart","Changer.__init__","Changer.enter_joint","Changer.leave_joint","Changer.simple","Changer.checked_copy","Changer.do_changes","Changer.make_voter","Changer.make_learner","Changer.remove","apply_change","Inflights.__init__","Inflights.full","Inflights.reset","Inflights.rows","Inflights.row","Progress.__init__","Progress.turn_to","Progress.become_replicate","Progress.become_snapshot","Progress.maybe_update","Progress.row","Ballots.record_vote","Ballots.reset_votes","Ballots.tally","Ballots.single","Tracker.__init__","Tracker.fresh","Tracker.adopt","Tracker.ids","Tracker.committed","Tracker.quorum_active","read_context","ReadStatus.__init__","Lease.__init__","Lease.tick","Lease.stamp","Lease.hear","Lease.give_up","Lease.holds","ReadOnly.__init__","ReadOnly.add","ReadOnly.ack","ReadOnly.advance","ReadOnly.last_context","ReadOnly.row","_law_draw","_law_after","_law_halves","_law_wins","_law_heard","_law_reads","_law_stands","_law_adopted","_law_change","_law_ack","_law_read","_law_beat","_law_answer","_law_told","_law_vote","_law_time","_law_sent","_law_act","law"]:List String).getD x ""
noncomputable def Fn.nm(x:Fn):List (String×Nat):=([[("n",0)],[("n",0)],[("data",0),("at",1)],[("data",0),("at",1)],[("ids",0),("out",1),("nid",2)],[("self",0),("term",1),("index",2),("kind",3),("data",4)],[("self",0)],[("self",0),("kind",1),("to",2),("frm",3),("term",4)],[("self",0),("entries",1),("snapshot",2)],[("self",0),("transition",1),("changes",2),("context",3)],[("self",0)],[("self",0)],[("ids",0),("acked",1),("held",2)],[("ids",0),("votes",1),("granted",2),("missing",3),("nid",4),("need",5)],[("a",0),("b",1),("acked",2),("left",3),("right",4)],[("a",0),("b",1),("votes",2),("left",3),("right",4)],[("self",0),("voters",1),("outgoing",2),("learners",3),("learners_next",4),("auto_leave",5)],[("self",0)],[("self",0)],[("self",0)],[("self",0)],[("self",0)],[("self",0),("acked",1)],[("self",0),("votes",1)],[("self",0),("nid",1)],[("ids",0),("nid",1)],[("ids",0),("nid",1)],[("a",0),("b",1),("count",2),("nid",3)],[("self",0),("config",1)],[("self",0),("auto_leave",1),("changes",2),("made",3)],[("self",0),("made",1)],[("self",0),("changes",1),("made",2)],[("self",0)],[("self",0),("made",1),("changes",2),("kind",3),("nid",4)],[("self",0),("made",1),("nid",2)],[("self",0),("made",1),("nid",2)],[("self",0),("made",1),("nid",2)],[("config",0),("change",1),("changer",2),("auto_leave",3),("use",4)],[("self",0),("size",1),("max_octets",2)],[("self",0)],[("self",0)],[("self",0),("out",1),("k",2),("place",3)],[("self",0)],[("self",0),("match",1),("upto",2),("inflights",3),("learner",4)],[("self",0),("state",1)],[("self",0)],[("self",0),("index",1)],[("self",0),("n",1)],[("self",0)],[("self",0),("nid",1),("ok",2)],[("self",0)],[("self",0),("granted",1),("rejected",2),("nid",3)],[("self",0)],[("self",0),("max_inflight",1),("max_octets",2)],[("self",0),("match",1),("upto",2),("learner",3)],[("self",0),("config",1),("last_index",2),("members",3),("known",4),("nid",5),("learner",6),("one",7)],[("self",0)],[("self",0),("acked",1),("nid",2)],[("self",0),("heard",1),("nid",2),("one",3)],[("message",0)],[("self",0),("index",1),("message",2)],[("self",0),("span",1)],[("self",0)],[("self",0)],[("self",0),("frm",1),("context",2),("sent",3)],[("self",0)],[("self",0),("config",1),("nid",2),("near",3),("other",4)],[("self",0),("option",1)],[("self",0),("index",1),("message",2),("name",3)],[("self",0),("frm",1),("name",2),("status",3)],[("self",0),("name",1),("out",2),("taken",3),("found",4),("one",5),("status",6)],[("self",0)],[("self",0),("out",1),("name",2),("status",3)],[("nums",0),("i",1)],[("now",0),("was",1),("transition",2),("steps",3),("joint",4),("both",5),("new",6),("kind",7),("nid",8)],[("w",0),("come",1),("goes",2)],[("w",0),("who",1)],[("w",0),("r",1)],[("w",0),("reads",1),("rest",2),("r",3),("near",4),("right",5)],[("w",0),("tracker",1),("now",2),("was",3),("ids",4),("parts",5),("known",6),("members",7),("j",8),("match",9),("upto",10),("state",11),("pending",12),("active",13),("want",14),("voters",15),("yes",16),("no",17),("end",18),("best",19)],[("w",0),("known",1),("j",2)],[("w",0),("y",1),("count",2),("transition",3),("steps",4),("k",5),("c",6),("want",7),("made",8)],[("w",0),("who",1),("r",2),("name",3),("heard",4),("acks",5),("won",6),("let",7),("due",8)],[("w",0),("y",1),("r",2),("m",3),("index",4),("name",5)],[("w",0),("y",1),("name",2),("r",3)],[("w",0),("y",1),("who",2),("beats",3),("sent",4),("r",5),("context",6),("want",7)],[("w",0),("y",1),("nid",2),("one",3),("index",4),("more",5)],[("w",0),("y",1),("nid",2),("ok",3)],[("w",0),("y",1),("_",2),("nid",3)],[("w",0),("y",1),("nid",2),("one",3)],[("w",0),("n",1),("k",2),("y",3)],[("script",0),("nums",1),("x",2),("now",3),("j",4),("span",5),("parts",6),("tracker",7),("w",8),("i",9)]]:List (List (String×Nat))).getD x []
noncomputable def Fn.top(x:Fn):Bool:=([true,true,true,true,true,false,false,false,false,false,false,false,true,true,true,true,false,false,false,false,false,false,false,false,false,true,true,true,false,false,false,false,false,false,false,false,false,true,false,false,false,false,false,false,false,false,false,false,false,false,false,false,false,false,false,false,false,false,false,true,false,false,false,false,false,false,false,false,false,false,false,false,false,true,true,true,true,true,true,true,true,true,true,true,true,true,true,true,true,true,true,true]:List Bool).getD x false
noncomputable def Fn.quiet(x:Fn):Bool:=([false,false,false,false,true,false,false,false,false,false,false,false,true,true,true,true,false,true,false,true,true,false,true,true,false,false,false,false,false,false,false,false,false,false,false,false,false,false,false,false,false,true,true,false,false,false,false,false,true,false,false,true,true,false,false,false,true,true,true,false,false,false,false,false,false,false,false,false,false,false,false,false,false,false,false,true,true,false,false,true,false,false,false,false,false,false,false,false,false,false,false,false]:List Bool).getD x false
noncomputable def A5:Nat:=92
noncomputable def nGl:Nat:=19
noncomputable def aaM:Nat:=11
noncomputable def nAt:Nat:=87
noncomputable def yY:Nat:=19
noncomputable def uf(α:Type):=Option (α×ai)
noncomputable def uf.ok{α:Type}(a:α)(m:ai):uf α:=some (a,m)
noncomputable def uf.bad{α:Type}:uf α:=none
noncomputable def ay:Nat:=1048576
noncomputable def aZ{α:Type}(p:Prop)[Decidable p](x:α):Option α:=if p then some x else none
theorem cK{α:Type}{G:Prop}{p:Prop}[d:Decidable p]{x y:α}(h:aZ p x=some y)(k:p→y=x→G):G:=match d,h with
 |.isTrue hp,h=>k hp (SN h).symm
 |.isFalse _,h=>nomatch h
theorem jF{α:Type}{p:Prop}[d:Decidable p]{x y:α}(h:aZ p x=some y):p∧x=y:=match d,h with
 |.isTrue hp,h=>⟨hp,SN h⟩
 |.isFalse _,h=>nomatch h
noncomputable def Op.nC:Op→Int→Int→Option Int
 |.add,a,b=>some (a+b)
 |.sub,a,b=>some (a-b)
 |.mul,a,b=>if a.natAbs<2^64 then some (a*b) else none
 |.fdiv,a,b=>if b≠0∧b.natAbs<1073741824 then some (a.fdiv b) else none
 |.qA,a,b=>if b=0 then none else some (a.fmod b)
 |.pow,a,b=>if 0≤a∧a<256∧0≤b∧b<64 then some (a^b.toNat) else none
 |.shl,a,b=>if 0≤a∧a<2^64∧0≤b∧b≤64 then some (a*2^b.toNat) else none
 |.shr,a,b=>if 0≤b∧b≤64 then some (a.fdiv (2^b.toNat)) else none
 |.Hg,a,b=>if 0≤a∧0≤b then some (a.toNat&&&b.toNat:Nat) else none
 |.bor,a,b=>if 0≤a∧0≤b then some (a.toNat|||b.toNat:Nat) else none
noncomputable def Op.C2:Op→Bool|.add=>true|_=>false
noncomputable def Op.rJ(op:Op)(a b:V):Option V:=a.fk.bind λa=>b.fk.bind λb=>(op.nC a b).map .int
noncomputable def Op.LF(op:Op)(a:List UInt8)(b:V):Option V:=b.sX.bind λb=>aZ (op.C2=true∧a.length+b.length<ay) (.bytes (a++b))
noncomputable def Op.vW(op:Op)(x:Nat)(b:V)(m:ai):Option (V×ai):=(m.o8 x).bind λl=>b.iE.bind λy=>(m.o8 y).bind λr=>
 aZ (op.C2=true∧l.length+r.length<ay) (.ref m.next,m.push (.list (l++r)))
noncomputable def I4(op:Op)(a b:V)(m:ai):uf V:=(match a with
 |.int i=>(b.fk.bind λb=>(op.nC i b).map .int).map λv=>(v,m)
 |.bytes p=>(op.LF p b).map λv=>(v,m)
 |.ref x=>op.vW x b m
 |_=>none)
noncomputable def O.agq:O→Option Bool|.list l=>some (!l.isEmpty)|_=>none
noncomputable def truthy(v:V)(m:ai):Option Bool:=match v with
 |.none=>some false
 |.bool b=>some b
 |.int i=>some (i !=0)
 |.ref a=>(m.get a).bind O.agq
 |_=>none
noncomputable def kindOf:V→Option KK
 |.int _=>some .int
 |.str _=>some .str
 |.bytes _=>some .bytes
 |_=>none
noncomputable def look(k:V)(es:List (V×V)):Option V:=(es.find? λp=>decide (p.1=k)).map (·.2)
noncomputable def bR(k v:V):List (V×V)→List (V×V)
 |[]=>[(k,v)]
 |p::es=>if p.1=k then(p.1,v)::es else p::bR k v es
noncomputable def drop(k:V)(es:List (V×V)):List (V×V):=es.filter λp=> !decide (p.1=k)
noncomputable def om(a b:V)(m:ai):Option Bool:=match a with
 |.ref x=>(m.o8 x).bind λl=>b.iE.bind λy=>(m.o8 y).bind λr=>aZ (((l.zip r).all λp=>V.bT 8 p.1 p.2)=true) (decide (l=r))
 |a=>aZ (V.bT 8 a b=true) (decide (a=b))
noncomputable def uh(x:V)(l:List V):Option Bool:=aZ (l.all (V.bT 8 · x)=true) (decide (x∈l))
noncomputable def O.mem(x:V):O→Option Bool
 |.list l=>uh x l
 |.dict k es=>aZ (kindOf x=some k) (look x es).isSome
 |_=>none
noncomputable def As(x c:V)(m:ai):Option Bool:=match c with
 |.bJ l=>uh x l
 |.ref a=>(m.get a).bind (O.mem x)
 |_=>none
noncomputable def OX(f:Int→Int→Bool)(a b:V):Option Bool:=a.fk.bind λa=>b.fk.map λb=>f a b
noncomputable def Cop.run(op:Cop)(a b:V)(m:ai):Option Bool:=match op with
 |.lt=>OX (λa b=>decide (a<b)) a b
 |.le=>OX (λa b=>decide (a≤b)) a b
 |.gt=>OX (λa b=>decide (b<a)) a b
 |.ge=>OX (λa b=>decide (b≤a)) a b
 |.eq=>om a b m
 |.ne=>(om a b m).map (! ·)
 |.mem=>As a b m
 |.pI=>(As a b m).map (! ·)
noncomputable def bA{α:Type}(l:List α)(i:Int):Option α:=
 if ay≤i.natAbs then none else if 0≤i then l[i.toNat]?else if 0≤i+l.length then l[(i+l.length).toNat]?else none
noncomputable def O.item(i:V):O→Option V
 |.list l=>i.fk.bind (bA l)
 |.dict k es=>if kindOf i=some k then look i es else none
 |_=>none
noncomputable def item(o i:V)(m:ai):Option V:=match o with
 |.bJ l=>i.fk.bind (bA l)
 |.bytes b=>i.fk.bind λi=>if 0≤i∧b.length<ay then(b[i.toNat]?).map λx=> .int x.toNat else none
 |.ref a=>(m.get a).bind (O.item i)
 |_=>none
noncomputable def O.setItem(i v:V):O→Option O
 |.list l=>i.fk.bind λi=>aZ (0≤i∧i.toNat<l.length) (.list (l.set i.toNat v))
 |.dict k es=>aZ (kindOf i=some k∧es.length<ay) (.dict k (bR i v es))
 |_=>none
noncomputable def setItem(o i v:V)(m:ai):uf Unit:=(o.iE.bind λa=>(m.get a).bind λob=>(ob.setItem i v).map λob'=>((),m.xd a ob'))
noncomputable def uY(x:At)(o:V)(m:ai):Option V:=o.iE.bind λa=>(m.D3 a).bind λp=>if p.1.pZ x=true then none else p.2.lookup x
noncomputable def iU(x:At)(v:V):List (At×V)→List (At×V)
 |[]=>[(x,v)]
 |p::es=>if p.1=x then(p.1,v)::es else p::iU x v es
noncomputable def setAttr(x:At)(o v:V)(m:ai):uf Unit:=(o.iE.bind λa=>(m.D3 a).bind λp=>aZ (p.2.length<100∧p.1.pZ x=false) ((),m.xd a (.inst p.1 (iU x v p.2))))
noncomputable def aO(v:V)(m:ai):Option (List V):=match v with
 |.bJ l=>some l
 |.range lo hi=>some ((Sw (hi-lo).toNat).map λn:Nat=> .int (lo+(n:Int)))
 |.ref a=>m.o8 a
 |_=>none
noncomputable def CE(ks:List Nat)(l:List V)(env:List V):List V:=(ks.zip l).foldl (λe p=>e.set p.1 p.2) env
noncomputable def nA(t:nO)(v:V)(env:List V)(m:ai):Option (List V):=match t with
 |.aA k=>some (env.set k v)
 |.iJ ks=>(aO v m).bind λl=>aZ (l.length=ks.length) (CE ks l env)
noncomputable def cut{α:Type}(l:List α)(lo hi:Nat):List α:=(l.take hi).drop lo
noncomputable def qN{α:Type}(l:List α)(lo hi:Option Int):List α:=cut l (lo.elim 0 (Ur l.length)) (hi.elim l.length (Ur l.length))
noncomputable def O.akQ(lo hi:Option Int):O→Option (List V)
 |.list l=>some (qN l lo hi)
 |.bare l=>some (qN l lo hi)
 |_=>none
noncomputable def iw(o:V)(lo hi:Option Int)(m:ai):uf V:=(match o with
 |.bytes b=>aZ (b.length<ay) (.bytes (qN b lo hi),m)
 |.ref a=>(m.get a).bind λob=>(ob.akQ lo hi).map λl=>(.ref m.next,m.push (.list l))
 |_=>none)
noncomputable def jx:List V→Option (List Int)
 |[]=>some []
 |v::l=>v.fk.bind λi=>(jx l).map (i:: ·)
noncomputable def bools:List V→Option (List Bool)
 |[]=>some []
 |v::l=>v.zh.bind λi=>(bools l).map (i:: ·)
noncomputable def b8(x:Int):List Int→List Int
 |[]=>[x]
 |y::l=>if x≤y then x::y::l else y::b8 x l
noncomputable def aB(l:List Int):List Int:=l.foldr b8 []
noncomputable def O.len:O→Option Nat
 |.list l=>some l.length
 |.dict _ es=>some es.length
 |_=>none
noncomputable def aa5(v:V)(m:ai):Option Nat:=match v with
 |.bytes b=>aZ (b.length<ay) b.length
 |.bJ l=>aZ (l.length<ay) l.length
 |.ref a=>(m.get a).bind O.len
 |_=>none
noncomputable def O.keys:O→Option (List V)
 |.list l=>some l
 |.dict k es=>match k with
  |.int=>some (es.map (·.1))
  |_=>none
 |_=>none
noncomputable def eT(v:V)(m:ai):uf V:=(v.iE.bind λa=>(m.get a).bind λo=>o.keys.bind λl=>(jx l).bind λis=>aZ (is.length<64) (.ref m.next,m.push (.list ((aB is).map .int))))
noncomputable def uC(v:V)(m:ai):Option (List V):=v.iE.bind m.o8
noncomputable def wW(v:V)(m:ai):Option V:=(uC v m).bind λl=>(jx l).bind λis=>aZ ((is.all λi=>decide (0≤i)&&decide (i<256))=true) (.bytes (is.map λi=>TS i.toNat))
noncomputable def IX(v:V)(m:ai):Option V:=(uC v m).map .bJ
noncomputable def abA(v:V)(m:ai):Option V:=(uC v m).bind λl=>(bools l).map λbs=> .bool (bs.all id)
noncomputable def ahZ(a b:V):Option V:=a.fk.bind λa=>b.fk.map λb=> .int (if a<b then b else a)
noncomputable def qG(a b:V):Option V:=a.fk.bind λa=>b.fk.bind λb=>aZ (a.natAbs<2^32∧b.natAbs<2^32) (.range a b)
noncomputable def za(o v:V)(m:ai):uf V:=(o.iE.bind λa=>(m.o8 a).bind λl=>aZ (l.length<ay) (.none,m.xd a (.list (l++[v]))))
noncomputable def afX(o k d:V)(m:ai):Option V:=o.iE.bind λa=>(m.Jl a).bind λp=>aZ (kindOf k=some p.1) ((look k p.2).getD d)
noncomputable def Ri(o k:V)(m:ai):uf V:=(o.iE.bind λa=>(m.Jl a).bind λp=>if kindOf k=some p.1 then(look k p.2).map λv=>(v,m.xd a (.dict p.1 (drop k p.2))) else none)
noncomputable def Rl(v:V)(m:ai):Bool:=(uC v m).isSome
noncomputable def aaa(v:V)(m:ai):Bool:=(v.iE.bind m.Jl).isSome
noncomputable def newList(l:List V)(m:ai):uf V:=(aZ (l.length<ay) (.ref m.next,m.push (.list l)))
noncomputable def FP(ks:List Nat)(vs:List V):List (V×V):=(ks.zip vs).foldl (λes p=>bR (.str p.1) p.2 es) []
noncomputable def newDict(ks:List Nat)(vs:List V)(m:ai):uf V:= .ok (.ref m.next) (m.push (.dict .str (FP ks vs)))
noncomputable def fj(env:List V)(k:Nat):Option V:=(env[k]?).bind λv=>match v.tL with
 |true=>none
 |false=>some v
inductive Fl where
 |next (env:List V)
 |cont (env:List V)
 |ret (v:V)
noncomputable def cC(ks:List Nat)(env:List V):List V:=ks.foldl (λe k=>e.set k .af) env
noncomputable def C8:Fl→V
 |.ret v=>v
 |.next _=> .none
 |.cont _=> .none
noncomputable def z8:aN:=
 ⟨1,1,.bS,
  (.zc (.cO (.or (.zc (.cmp .lt (.zv 0) (.zl (.int 0))) (.zc (.cmp .gt (.zv 0) (.dI .Ov)) .zn)))
  (.zc .stuck
  .zn)
  .zn)
  (.zc (.ret (.bi .bytes (.zc (.list (.zc (.cW .Hg (.zv 0) (.zl (.int 255))) (.zc (.cW .Hg (.cW .shr (.zv 0) (.zl (.int 8))) (.zl (.int 255))) (.zc (.cW .Hg (.cW .shr (.zv 0) (.zl (.int 16))) (.zl (.int 255))) (.zc (.cW .shr (.zv 0) (.zl (.int 24))) .zn))))) .zn)))
  .zn))⟩
noncomputable def Ac:aN:=
 ⟨1,1,.bS,
  (.zc (.cO (.or (.zc (.cmp .lt (.zv 0) (.zl (.int 0))) (.zc (.cmp .gt (.zv 0) (.dI .aco)) .zn)))
  (.zc .stuck
  .zn)
  .zn)
  (.zc (.ret (.cW .add (.call .mw (.zc (.cW .Hg (.zv 0) (.dI .Ov)) .zn)) (.call .mw (.zc (.cW .shr (.zv 0) (.zl (.int 32))) .zn))))
  .zn))⟩
noncomputable def yP:aN:=
 ⟨2,2,.bS,
  (.zc (.cO (.or (.zc (.cmp .lt (.zv 1) (.zl (.int 0))) (.zc (.cmp .gt (.cW .add (.zv 1) (.zl (.int 4))) (.bi .len (.zc (.zv 0) .zn))) .zn)))
  (.zc .stuck
  .zn)
  .zn)
  (.zc (.ret (.cW .bor (.cW .bor (.cW .bor (.idx (.zv 0) (.zv 1)) (.cW .shl (.idx (.zv 0) (.cW .add (.zv 1) (.zl (.int 1)))) (.zl (.int 8)))) (.cW .shl (.idx (.zv 0) (.cW .add (.zv 1) (.zl (.int 2)))) (.zl (.int 16)))) (.cW .shl (.idx (.zv 0) (.cW .add (.zv 1) (.zl (.int 3)))) (.zl (.int 24)))))
  .zn))⟩
noncomputable def xO:aN:=
 ⟨2,2,.bS,
  (.zc (.cO (.or (.zc (.cmp .lt (.zv 1) (.zl (.int 0))) (.zc (.cmp .gt (.cW .add (.zv 1) (.zl (.int 8))) (.bi .len (.zc (.zv 0) .zn))) .zn)))
  (.zc .stuck
  .zn)
  .zn)
  (.zc (.ret (.cW .bor (.call .kY (.zc (.zv 0) (.zc (.zv 1) .zn))) (.cW .shl (.call .kY (.zc (.zv 0) (.zc (.cW .add (.zv 1) (.zl (.int 4))) .zn))) (.zl (.int 32)))))
  .zn))⟩
noncomputable def Mt:aN:=
 ⟨1,3,.fresh,
  (.zc (.assign 1 (.list .zn))
  (.zc (.iH (.aA 2) (.bi .sorted (.zc (.zv 0) .zn))
  (.zc (.cO (.or (.zc (.not (.zv 1)) (.zc (.cmp .ne (.idx (.zv 1) (.neg (.zl (.int 1)))) (.zv 2)) .zn)))
  (.zc (.expr (.me .append (.zv 1) (.zc (.zv 2) .zn)))
  .zn)
  .zn)
  .zn) [2])
  (.zc (.ret (.zv 1))
  .zn)))⟩
noncomputable def BU:aN:=
 ⟨5,5,.keep,
  (.zc (.setAttr (.zv 0) .pV (.zv 1))
  (.zc (.setAttr (.zv 0) .ir (.zv 2))
  (.zc (.setAttr (.zv 0) .qa (.zv 3))
  (.zc (.setAttr (.zv 0) .xN (.zv 4))
  .zn))))⟩
noncomputable def D0:aN:=
 ⟨1,1,.bS,
  (.zc (.ret (.bJ (.zc (.attr .pV (.zv 0)) (.zc (.attr .ir (.zv 0)) (.zc (.attr .qa (.zv 0)) (.zc (.attr .xN (.zv 0)) .zn))))))
  .zn)⟩
noncomputable def zx:aN:=
 ⟨5,5,.keep,
  (.zc (.setAttr (.zv 0) .qa (.zv 1))
  (.zc (.setAttr (.zv 0) .RC (.zv 2))
  (.zc (.setAttr (.zv 0) .Ic (.zv 3))
  (.zc (.setAttr (.zv 0) .pV (.zv 4))
  (.zc (.setAttr (.zv 0) .oi (.zl (.int 0)))
  (.zc (.setAttr (.zv 0) .ir (.zl (.int 0)))
  (.zc (.setAttr (.zv 0) .jD (.list .zn))
  (.zc (.setAttr (.zv 0) .sL (.zl (.int 0)))
  (.zc (.setAttr (.zv 0) .oJ (.zl .none))
  (.zc (.setAttr (.zv 0) .sU (.zl (.bool false)))
  (.zc (.setAttr (.zv 0) .jH (.zl (.int 0)))
  (.zc (.setAttr (.zv 0) .jt (.zl (.bytes [])))
  .zn))))))))))))⟩
noncomputable def zT:aN:=
 ⟨1,4,.bS,
  (.zc (.assign 1 (.bi .tuple (.zc (.comp (.aA 3) (.attr .jD (.zv 0)) .zn (.aU .AU .A9 .ie (.zv 3) .zn)) .zn)))
  (.zc (.assign 2 (.zl .none))
  (.zc (.cO (.nq (.attr .oJ (.zv 0)))
  (.zc (.assign 2 .stuck)
  .zn)
  .zn)
  (.zc (.ret (.bJ (.zc (.attr .qa (.zv 0)) (.zc (.attr .RC (.zv 0)) (.zc (.attr .Ic (.zv 0)) (.zc (.attr .pV (.zv 0)) (.zc (.attr .oi (.zv 0)) (.zc (.attr .ir (.zv 0)) (.zc (.zv 1) (.zc (.attr .sL (.zv 0)) (.zc (.zv 2) (.zc (.attr .sU (.zv 0)) (.zc (.attr .jH (.zv 0)) (.zc (.attr .jt (.zv 0)) .zn))))))))))))))
  .zn))))⟩
noncomputable def sD:aN:=
 ⟨4,6,.keep,
  (.zc (.setAttr (.zv 0) .cH (.zv 1))
  (.zc (.setAttr (.zv 0) .lq (.comp (.iJ [4,5]) (.zv 2) .zn (.bJ (.zc (.zv 4) (.zc (.zv 5) .zn)))))
  (.zc (.setAttr (.zv 0) .jt (.zv 3))
  .zn)))⟩
noncomputable def mF:aN:=
 ⟨1,1,.bS,
  (.zc (.cO (.cmp .pI (.attr .cH (.zv 0)) (.bJ (.zc (.dI .acn) (.zc (.dI .LP) (.zc (.dI .Eu) .zn)))))
  (.zc .stuck
  .zn)
  .zn)
  (.zc (.cO (.and (.zc (.cmp .eq (.attr .cH (.zv 0)) (.dI .acn)) (.zc (.cmp .le (.bi .len (.zc (.attr .lq (.zv 0)) .zn)) (.zl (.int 1))) .zn)))
  (.zc (.ret (.bJ (.zc (.zl (.bool false)) (.zc (.zl (.bool false)) .zn))))
  .zn)
  .zn)
  (.zc (.ret (.bJ (.zc (.cmp .ne (.attr .cH (.zv 0)) (.dI .Eu)) (.zc (.zl (.bool true)) .zn))))
  .zn)))⟩
noncomputable def mX:aN:=
 ⟨1,1,.bS,
  (.zc (.ret (.and (.zc (.cmp .eq (.attr .cH (.zv 0)) (.dI .acn)) (.zc (.not (.attr .lq (.zv 0))) .zn))))
  .zn)⟩
noncomputable def uP:aN:=
 ⟨2,4,.bS,
  (.zc (.cO (.not (.zv 0))
  (.zc (.ret (.dI .NX))
  .zn)
  .zn)
  (.zc (.assign 2 (.bi .sorted (.zc (.comp (.aA 3) (.zv 0) .zn (.me .get (.zv 1) (.zc (.zv 3) (.zc (.zl (.int 0)) .zn)))) .zn)))
  (.zc (.ret (.idx (.zv 2) (.cW .sub (.bi .len (.zc (.zv 2) .zn)) (.cW .add (.cW .fdiv (.bi .len (.zc (.zv 2) .zn)) (.zl (.int 2))) (.zl (.int 1))))))
  .zn)))⟩
noncomputable def wF:aN:=
 ⟨2,6,.bS,
  (.zc (.cO (.not (.zv 0))
  (.zc (.ret (.dI .nB))
  .zn)
  .zn)
  (.zc (.assign 2 (.zl (.int 0)))
  (.zc (.assign 3 (.zl (.int 0)))
  (.zc (.iH (.aA 4) (.zv 0)
  (.zc (.cO (.cmp .pI (.zv 4) (.zv 1))
  (.zc (.Lq 3 .add (.zl (.int 1)))
  .zn)
  (.zc (.cO (.idx (.zv 1) (.zv 4))
  (.zc (.Lq 2 .add (.zl (.int 1)))
  .zn)
  .zn)
  .zn))
  .zn) [4])
  (.zc (.assign 5 (.cW .add (.cW .fdiv (.bi .len (.zc (.zv 0) .zn)) (.zl (.int 2))) (.zl (.int 1))))
  (.zc (.cO (.cmp .ge (.zv 2) (.zv 5))
  (.zc (.ret (.dI .nB))
  .zn)
  .zn)
  (.zc (.cO (.cmp .ge (.cW .add (.zv 2) (.zv 3)) (.zv 5))
  (.zc (.ret (.dI .kP))
  .zn)
  .zn)
  (.zc (.ret (.dI .ju))
  .zn))))))))⟩
noncomputable def zV:aN:=
 ⟨3,5,.bS,
  (.zc (.assign 3 (.call .fh (.zc (.zv 0) (.zc (.zv 2) .zn))))
  (.zc (.assign 4 (.call .fh (.zc (.zv 1) (.zc (.zv 2) .zn))))
  (.zc (.cO (.cmp .lt (.zv 3) (.zv 4))
  (.zc (.ret (.zv 3))
  .zn)
  .zn)
  (.zc (.ret (.zv 4))
  .zn))))⟩
noncomputable def BY:aN:=
 ⟨3,5,.bS,
  (.zc (.assign 3 (.call .eX (.zc (.zv 0) (.zc (.zv 2) .zn))))
  (.zc (.assign 4 (.call .eX (.zc (.zv 1) (.zc (.zv 2) .zn))))
  (.zc (.cO (.cmp .eq (.zv 3) (.zv 4))
  (.zc (.ret (.zv 3))
  .zn)
  .zn)
  (.zc (.cO (.or (.zc (.cmp .eq (.zv 3) (.dI .ju)) (.zc (.cmp .eq (.zv 4) (.dI .ju)) .zn)))
  (.zc (.ret (.dI .ju))
  .zn)
  .zn)
  (.zc (.ret (.dI .kP))
  .zn)))))⟩
noncomputable def zI:aN:=
 ⟨6,6,.keep,
  (.zc (.setAttr (.zv 0) .cy (.call .gq (.zc (.zv 1) .zn)))
  (.zc (.setAttr (.zv 0) .cI (.call .gq (.zc (.zv 2) .zn)))
  (.zc (.setAttr (.zv 0) .cu (.call .gq (.zc (.zv 3) .zn)))
  (.zc (.setAttr (.zv 0) .bE (.call .gq (.zc (.zv 4) .zn)))
  (.zc (.setAttr (.zv 0) .fM (.zv 5))
  .zn)))))⟩
noncomputable def Cq:aN:=
 ⟨1,1,.bS,
  (.zc (.ret (.bJ (.zc (.bi .tuple (.zc (.attr .cy (.zv 0)) .zn)) (.zc (.bi .tuple (.zc (.attr .cI (.zv 0)) .zn)) (.zc (.bi .tuple (.zc (.attr .cu (.zv 0)) .zn)) (.zc (.bi .tuple (.zc (.attr .bE (.zv 0)) .zn)) (.zc (.attr .fM (.zv 0)) .zn)))))))
  .zn)⟩
noncomputable def zO:aN:=
 ⟨1,1,.keep,
  (.zc (.ret (.new .dD (.zc (.attr .cy (.zv 0)) (.zc (.attr .cI (.zv 0)) (.zc (.attr .cu (.zv 0)) (.zc (.attr .bE (.zv 0)) (.zc (.attr .fM (.zv 0)) .zn)))))))
  .zn)⟩
noncomputable def yk:aN:=
 ⟨1,1,.bS,
  (.zc (.ret (.cmp .gt (.bi .len (.zc (.attr .cI (.zv 0)) .zn)) (.zl (.int 0))))
  .zn)⟩
noncomputable def qP:aN:=
 ⟨1,1,.fresh,
  (.zc (.ret (.call .gq (.zc (.cW .add (.attr .cy (.zv 0)) (.attr .cI (.zv 0))) .zn)))
  .zn)⟩
noncomputable def u7:aN:=
 ⟨1,1,.fresh,
  (.zc (.ret (.call .gq (.zc (.cW .add (.cW .add (.attr .cy (.zv 0)) (.attr .cI (.zv 0))) (.attr .cu (.zv 0))) .zn)))
  .zn)⟩
noncomputable def rW:aN:=
 ⟨2,2,.bS,
  (.zc (.ret (.call .Dh (.zc (.attr .cy (.zv 0)) (.zc (.attr .cI (.zv 0)) (.zc (.zv 1) .zn)))))
  .zn)⟩
noncomputable def z9:aN:=
 ⟨2,2,.bS,
  (.zc (.ret (.call .Gp (.zc (.attr .cy (.zv 0)) (.zc (.attr .cI (.zv 0)) (.zc (.zv 1) .zn)))))
  .zn)⟩
noncomputable def y9:aN:=
 ⟨1,2,.bS,
  (.zc (.cO (.cmp .mem (.dI .af7) (.aU .gm .dD .qI (.zv 0) .zn))
  (.zc .stuck
  .zn)
  .zn)
  (.zc (.iH (.aA 1) (.attr .bE (.zv 0))
  (.zc (.cO (.cmp .pI (.zv 1) (.attr .cI (.zv 0)))
  (.zc .stuck
  .zn)
  .zn)
  (.zc (.cO (.cmp .mem (.zv 1) (.attr .cu (.zv 0)))
  (.zc .stuck
  .zn)
  .zn)
  (.zc (.cO (.cmp .mem (.zv 1) (.attr .cy (.zv 0)))
  (.zc .stuck
  .zn)
  .zn)
  .zn))) [1])
  (.zc (.iH (.aA 1) (.attr .cu (.zv 0))
  (.zc (.cO (.cmp .mem (.zv 1) (.attr .cy (.zv 0)))
  (.zc .stuck
  .zn)
  .zn)
  (.zc (.cO (.cmp .mem (.zv 1) (.attr .cI (.zv 0)))
  (.zc .stuck
  .zn)
  .zn)
  .zn)) [1])
  (.zc (.cO (.not (.aU .eS .dD .oK (.zv 0) .zn))
  (.zc (.cO (.attr .fM (.zv 0))
  (.zc .stuck
  .zn)
  .zn)
  .zn)
  .zn)
  .zn))))⟩
noncomputable def aab:aN:=
 ⟨2,2,.fresh,
  (.zc (.ret (.call .gq (.zc (.cW .add (.zv 0) (.list (.zc (.zv 1) .zn))) .zn)))
  .zn)⟩
noncomputable def Ku:aN:=
 ⟨2,3,.fresh,
  (.zc (.ret (.comp (.aA 2) (.zv 0) (.zc (.cmp .ne (.zv 2) (.zv 1)) .zn) (.zv 2)))
  .zn)⟩
noncomputable def zP:aN:=
 ⟨2,4,.bS,
  (.zc (.assign 2 (.zl (.int 0)))
  (.zc (.iH (.aA 3) (.zv 0)
  (.zc (.cO (.cmp .pI (.zv 3) (.zv 1))
  (.zc (.Lq 2 .add (.zl (.int 1)))
  .zn)
  .zn)
  .zn) [3])
  (.zc (.iH (.aA 3) (.zv 1)
  (.zc (.cO (.cmp .pI (.zv 3) (.zv 0))
  (.zc (.Lq 2 .add (.zl (.int 1)))
  .zn)
  .zn)
  .zn) [3])
  (.zc (.ret (.zv 2))
  .zn))))⟩
noncomputable def xQ:aN:=
 ⟨2,2,.keep,
  (.zc (.setAttr (.zv 0) .b6 (.zv 1))
  .zn)⟩
noncomputable def pK:aN:=
 ⟨3,4,.keep,
  (.zc (.assign 3 (.aU .dj .gh .gj (.zv 0) .zn))
  (.zc (.cO (.aU .eS .dD .oK (.zv 3) .zn)
  (.zc .kh
  .zn)
  .zn)
  (.zc (.cO (.not (.attr .cy (.zv 3)))
  (.zc .kh
  .zn)
  .zn)
  (.zc (.setAttr (.zv 3) .cI (.call .gq (.zc (.attr .cy (.zv 3)) .zn)))
  (.zc (.expr (.aU .aW .gh .k6 (.zv 0) (.zc (.zv 3) (.zc (.zv 2) .zn))))
  (.zc (.setAttr (.zv 3) .fM (.zv 1))
  (.zc (.expr (.aU .di .dD .oQ (.zv 3) .zn))
  (.zc (.ret (.zv 3))
  .zn))))))))⟩
noncomputable def pJ:aN:=
 ⟨1,2,.keep,
  (.zc (.assign 1 (.aU .dj .gh .gj (.zv 0) .zn))
  (.zc (.cO (.not (.aU .eS .dD .oK (.zv 1) .zn))
  (.zc .kh
  .zn)
  .zn)
  (.zc (.setAttr (.zv 1) .cu (.call .gq (.zc (.cW .add (.attr .cu (.zv 1)) (.attr .bE (.zv 1))) .zn)))
  (.zc (.setAttr (.zv 1) .bE (.list .zn))
  (.zc (.setAttr (.zv 1) .cI (.list .zn))
  (.zc (.setAttr (.zv 1) .fM (.zl (.bool false)))
  (.zc (.cO (.not (.attr .cy (.zv 1)))
  (.zc .kh
  .zn)
  .zn)
  (.zc (.expr (.aU .di .dD .oQ (.zv 1) .zn))
  (.zc (.ret (.zv 1))
  .zn)))))))))⟩
noncomputable def uu:aN:=
 ⟨2,3,.keep,
  (.zc (.assign 2 (.aU .dj .gh .gj (.zv 0) .zn))
  (.zc (.cO (.aU .eS .dD .oK (.zv 2) .zn)
  (.zc .kh
  .zn)
  .zn)
  (.zc (.cO (.not (.attr .cy (.zv 2)))
  (.zc .kh
  .zn)
  .zn)
  (.zc (.expr (.aU .aW .gh .k6 (.zv 0) (.zc (.zv 2) (.zc (.zv 1) .zn))))
  (.zc (.cO (.cmp .gt (.call .gn (.zc (.attr .cy (.attr .b6 (.zv 0))) (.zc (.attr .cy (.zv 2)) .zn))) (.zl (.int 1)))
  (.zc .kh
  .zn)
  .zn)
  (.zc (.expr (.aU .di .dD .oQ (.zv 2) .zn))
  (.zc (.ret (.zv 2))
  .zn)))))))⟩
noncomputable def oW:aN:=
 ⟨1,1,.keep,
  (.zc (.expr (.aU .di .dD .oQ (.attr .b6 (.zv 0)) .zn))
  (.zc (.ret (.aU .pW .dD .uF (.attr .b6 (.zv 0)) .zn))
  .zn))⟩
noncomputable def pS:aN:=
 ⟨3,5,.keep,
  (.zc (.iH (.iJ [3,4]) (.zv 2)
  (.zc (.cO (.cmp .eq (.zv 4) (.dI .af7))
  (.zc .cont
  .zn)
  .zn)
  (.zc (.cO (.cmp .eq (.zv 3) (.dI .Nz))
  (.zc (.expr (.aU .dX .gh .oF (.zv 0) (.zc (.zv 1) (.zc (.zv 4) .zn))))
  .zn)
  (.zc (.cO (.cmp .eq (.zv 3) (.dI .DO))
  (.zc (.expr (.aU .bF .gh .lA (.zv 0) (.zc (.zv 1) (.zc (.zv 4) .zn))))
  .zn)
  (.zc (.cO (.cmp .eq (.zv 3) (.dI .EF))
  (.zc (.expr (.aU .e9 .gh .t7 (.zv 0) (.zc (.zv 1) (.zc (.zv 4) .zn))))
  .zn)
  (.zc (.cO (.cmp .ne (.zv 3) (.dI .Dg))
  (.zc .stuck
  .zn)
  .zn)
  .zn))
  .zn))
  .zn))
  .zn)) [3,4])
  (.zc (.cO (.not (.attr .cy (.zv 1)))
  (.zc .kh
  .zn)
  .zn)
  .zn))⟩
noncomputable def qe:aN:=
 ⟨3,3,.keep,
  (.zc (.setAttr (.zv 1) .cu (.call .without (.zc (.attr .cu (.zv 1)) (.zc (.zv 2) .zn))))
  (.zc (.setAttr (.zv 1) .bE (.call .without (.zc (.attr .bE (.zv 1)) (.zc (.zv 2) .zn))))
  (.zc (.setAttr (.zv 1) .cy (.call .Dr (.zc (.attr .cy (.zv 1)) (.zc (.zv 2) .zn))))
  .zn)))⟩
noncomputable def oR:aN:=
 ⟨3,3,.keep,
  (.zc (.cO (.cmp .mem (.zv 2) (.attr .cu (.zv 1)))
  (.zc .tV
  .zn)
  .zn)
  (.zc (.expr (.aU .e9 .gh .t7 (.zv 0) (.zc (.zv 1) (.zc (.zv 2) .zn))))
  (.zc (.cO (.cmp .mem (.zv 2) (.attr .cI (.zv 1)))
  (.zc (.setAttr (.zv 1) .bE (.call .Dr (.zc (.attr .bE (.zv 1)) (.zc (.zv 2) .zn))))
  .zn)
  (.zc (.setAttr (.zv 1) .cu (.call .Dr (.zc (.attr .cu (.zv 1)) (.zc (.zv 2) .zn))))
  .zn))
  .zn)))⟩
noncomputable def uH:aN:=
 ⟨3,3,.keep,
  (.zc (.setAttr (.zv 1) .cy (.call .without (.zc (.attr .cy (.zv 1)) (.zc (.zv 2) .zn))))
  (.zc (.setAttr (.zv 1) .cu (.call .without (.zc (.attr .cu (.zv 1)) (.zc (.zv 2) .zn))))
  (.zc (.setAttr (.zv 1) .bE (.call .without (.zc (.attr .bE (.zv 1)) (.zc (.zv 2) .zn))))
  .zn)))⟩
noncomputable def x9:aN:=
 ⟨2,5,.keep,
  (.zc (.assign 2 (.new .gh (.zc (.zv 0) .zn)))
  (.zc (.cO (.aU .cB .eW .fS (.zv 1) .zn)
  (.zc (.ret (.aU .cS .gh .fS (.zv 2) .zn))
  .zn)
  .zn)
  (.zc (.unpack [3,4] (.aU .cA .eW .fT (.zv 1) .zn))
  (.zc (.cO (.zv 4)
  (.zc (.ret (.aU .br .gh .fT (.zv 2) (.zc (.zv 3) (.zc (.attr .lq (.zv 1)) .zn))))
  .zn)
  .zn)
  (.zc (.ret (.aU .dY .gh .yR (.zv 2) (.zc (.attr .lq (.zv 1)) .zn)))
  .zn)))))⟩
noncomputable def uQ:aN:=
 ⟨3,3,.keep,
  (.zc (.setAttr (.zv 0) .r5 (.zv 1))
  (.zc (.setAttr (.zv 0) .bW (.zv 2))
  (.zc (.setAttr (.zv 0) .xx (.zl (.int 0)))
  (.zc (.setAttr (.zv 0) .xK (.zl (.int 0)))
  (.zc (.setAttr (.zv 0) .qg (.zl (.int 0)))
  (.zc (.setAttr (.zv 0) .GC (.list .zn))
  .zn))))))⟩
noncomputable def uv:aN:=
 ⟨1,1,.bS,
  (.zc (.cO (.cmp .ge (.attr .xK (.zv 0)) (.attr .r5 (.zv 0)))
  (.zc (.ret (.zl (.bool true)))
  .zn)
  .zn)
  (.zc (.ret (.and (.zc (.cmp .ne (.attr .bW (.zv 0)) (.zl (.int 0))) (.zc (.cmp .ge (.attr .qg (.zv 0)) (.attr .bW (.zv 0))) .zn))))
  .zn))⟩
noncomputable def sy:aN:=
 ⟨1,1,.keep,
  (.zc (.setAttr (.zv 0) .xx (.zl (.int 0)))
  (.zc (.setAttr (.zv 0) .xK (.zl (.int 0)))
  (.zc (.setAttr (.zv 0) .qg (.zl (.int 0)))
  .zn)))⟩
noncomputable def uK:aN:=
 ⟨1,4,.fresh,
  (.zc (.assign 1 (.list .zn))
  (.zc (.iH (.aA 2) (.bi .range (.zc (.attr .xK (.zv 0)) .zn))
  (.zc (.assign 3 (.cW .add (.attr .xx (.zv 0)) (.zv 2)))
  (.zc (.cO (.cmp .ge (.zv 3) (.attr .r5 (.zv 0)))
  (.zc (.Lq 3 .sub (.attr .r5 (.zv 0)))
  .zn)
  .zn)
  (.zc (.expr (.me .append (.zv 1) (.zc (.idx (.attr .GC (.zv 0)) (.zv 3)) .zn)))
  .zn))) [2,3])
  (.zc (.ret (.zv 1))
  .zn)))⟩
noncomputable def wG:aN:=
 ⟨1,1,.bS,
  (.zc (.ret (.bJ (.zc (.attr .r5 (.zv 0)) (.zc (.attr .bW (.zv 0)) (.zc (.attr .qg (.zv 0)) (.zc (.bi .tuple (.zc (.aU .p9 .nF .FQ (.zv 0) .zn) .zn)) .zn))))))
  .zn)⟩
noncomputable def wB:aN:=
 ⟨5,5,.keep,
  (.zc (.setAttr (.zv 0) .oS (.zv 1))
  (.zc (.setAttr (.zv 0) .uS (.zv 2))
  (.zc (.setAttr (.zv 0) .xC (.dI .agH))
  (.zc (.setAttr (.zv 0) .d7 (.zl (.int 0)))
  (.zc (.setAttr (.zv 0) .dH (.zl (.bool false)))
  (.zc (.setAttr (.zv 0) .ic (.zl (.bool false)))
  (.zc (.setAttr (.zv 0) .mj (.zv 3))
  (.zc (.setAttr (.zv 0) .nW (.zv 4))
  .zn))))))))⟩
noncomputable def r6:aN:=
 ⟨2,2,.keep,
  (.zc (.setAttr (.zv 0) .ic (.zl (.bool false)))
  (.zc (.setAttr (.zv 0) .d7 (.zl (.int 0)))
  (.zc (.setAttr (.zv 0) .xC (.zv 1))
  (.zc (.expr (.aU .pB .nF .Bk (.attr .mj (.zv 0)) .zn))
  .zn))))⟩
noncomputable def kK:aN:=
 ⟨1,1,.keep,
  (.zc (.expr (.aU .jy .jX .qB (.zv 0) (.zc (.dI .JP) .zn)))
  (.zc (.setAttr (.zv 0) .uS (.cW .add (.attr .oS (.zv 0)) (.zl (.int 1))))
  .zn))⟩
noncomputable def lE:aN:=
 ⟨2,2,.keep,
  (.zc (.expr (.aU .jy .jX .qB (.zv 0) (.zc (.dI .LJ) .zn)))
  (.zc (.setAttr (.zv 0) .d7 (.zv 1))
  .zn))⟩
noncomputable def ni:aN:=
 ⟨2,2,.keep,
  (.zc (.cO (.cmp .le (.zv 1) (.attr .oS (.zv 0)))
  (.zc (.ret (.zl (.bool false)))
  .zn)
  .zn)
  (.zc (.setAttr (.zv 0) .oS (.zv 1))
  (.zc (.setAttr (.zv 0) .uS (.bi .max (.zc (.attr .uS (.zv 0)) (.zc (.cW .add (.zv 1) (.zl (.int 1))) .zn))))
  (.zc (.setAttr (.zv 0) .ic (.zl (.bool false)))
  (.zc (.ret (.zl (.bool true)))
  .zn)))))⟩
noncomputable def xS:aN:=
 ⟨1,1,.bS,
  (.zc (.ret (.bJ (.zc (.attr .oS (.zv 0)) (.zc (.attr .uS (.zv 0)) (.zc (.attr .xC (.zv 0)) (.zc (.attr .d7 (.zv 0)) (.zc (.attr .dH (.zv 0)) (.zc (.attr .ic (.zv 0)) (.zc (.attr .nW (.zv 0)) (.zc (.aU .jL .nF .ie (.attr .mj (.zv 0)) .zn) .zn))))))))))
  .zn)⟩
noncomputable def pF:aN:=
 ⟨3,3,.keep,
  (.zc (.cO (.cmp .pI (.zv 1) (.attr .f6 (.zv 0)))
  (.zc (.cG (.attr .f6 (.zv 0)) (.zv 1) (.zv 2))
  .zn)
  .zn)
  .zn)⟩
noncomputable def pC:aN:=
 ⟨1,1,.keep,
  (.zc (.setAttr (.zv 0) .f6 (.pQ .int))
  .zn)⟩
noncomputable def wu:aN:=
 ⟨1,4,.bS,
  (.zc (.assign 1 (.zl (.int 0)))
  (.zc (.assign 2 (.zl (.int 0)))
  (.zc (.iH (.aA 3) (.aU .f9 .dD .n5 (.attr .b6 (.zv 0)) .zn)
  (.zc (.cO (.cmp .pI (.zv 3) (.attr .f6 (.zv 0)))
  (.zc .cont
  .zn)
  .zn)
  (.zc (.cO (.idx (.attr .f6 (.zv 0)) (.zv 3))
  (.zc (.Lq 1 .add (.zl (.int 1)))
  .zn)
  (.zc (.Lq 2 .add (.zl (.int 1)))
  .zn))
  .zn)) [3])
  (.zc (.ret (.bJ (.zc (.zv 1) (.zc (.zv 2) (.zc (.aU .fE .dD .uq (.attr .b6 (.zv 0)) (.zc (.attr .f6 (.zv 0)) .zn)) .zn)))))
  .zn))))⟩
noncomputable def ur:aN:=
 ⟨1,1,.bS,
  (.zc (.ret (.and (.zc (.cmp .eq (.bi .len (.zc (.attr .cy (.attr .b6 (.zv 0))) .zn)) (.zl (.int 1))) (.zc (.not (.aU .eS .dD .oK (.attr .b6 (.zv 0)) .zn)) .zn))))
  .zn)⟩
noncomputable def yH:aN:=
 ⟨3,3,.keep,
  (.zc (.setAttr (.zv 0) .cR (.zv 1))
  (.zc (.setAttr (.zv 0) .bW (.zv 2))
  (.zc (.setAttr (.zv 0) .b6 (.new .dD (.zc (.list .zn) (.zc (.list .zn) (.zc (.list .zn) (.zc (.list .zn) (.zc (.zl (.bool false)) .zn)))))))
  (.zc (.setAttr (.zv 0) .bL (.pQ .int))
  (.zc (.setAttr (.zv 0) .f6 (.pQ .int))
  .zn)))))⟩
noncomputable def wA:aN:=
 ⟨4,4,.keep,
  (.zc (.ret (.new .jX (.zc (.zv 1) (.zc (.zv 2) (.zc (.new .nF (.zc (.attr .cR (.zv 0)) (.zc (.attr .bW (.zv 0)) .zn))) (.zc (.zv 3) .zn))))))
  .zn)⟩
noncomputable def wC:aN:=
 ⟨3,8,.keep,
  (.zc (.expr (.aU .di .dD .oQ (.zv 1) .zn))
  (.zc (.assign 3 (.aU .gm .dD .qI (.zv 1) .zn))
  (.zc (.assign 4 (.pQ .int))
  (.zc (.iH (.aA 5) (.zv 3)
  (.zc (.assign 6 (.cmp .mem (.zv 5) (.attr .cu (.zv 1))))
  (.zc (.cO (.cmp .mem (.zv 5) (.attr .bL (.zv 0)))
  (.zc (.assign 7 (.idx (.attr .bL (.zv 0)) (.zv 5)))
  (.zc (.setAttr (.zv 7) .nW (.zv 6))
  .zn))
  (.zc (.assign 7 (.aU .qT .cX .Cd (.zv 0) (.zc (.zl (.int 0)) (.zc (.bi .max (.zc (.zv 2) (.zc (.zl (.int 1)) .zn))) (.zc (.zv 6) .zn)))))
  (.zc (.setAttr (.zv 7) .dH (.zl (.bool true)))
  .zn)))
  (.zc (.cG (.zv 4) (.zv 5) (.zv 7))
  .zn))) [5,6,7])
  (.zc (.setAttr (.zv 0) .bL (.zv 4))
  (.zc (.setAttr (.zv 0) .b6 (.aU .pW .dD .uF (.zv 1) .zn))
  .zn))))))⟩
noncomputable def zJ:aN:=
 ⟨1,1,.fresh,
  (.zc (.ret (.bi .sorted (.zc (.attr .bL (.zv 0)) .zn)))
  .zn)⟩
noncomputable def qR:aN:=
 ⟨1,3,.bS,
  (.zc (.assign 1 (.pQ .int))
  (.zc (.iH (.aA 2) (.aU .fD .cX .AP (.zv 0) .zn)
  (.zc (.cG (.zv 1) (.zv 2) (.attr .oS (.idx (.attr .bL (.zv 0)) (.zv 2))))
  .zn) [2])
  (.zc (.ret (.aU .gy .dD .iF (.attr .b6 (.zv 0)) (.zc (.zv 1) .zn)))
  .zn)))⟩
noncomputable def m7:aN:=
 ⟨1,4,.bS,
  (.zc (.assign 1 (.pQ .int))
  (.zc (.iH (.aA 2) (.aU .fD .cX .AP (.zv 0) .zn)
  (.zc (.assign 3 (.idx (.attr .bL (.zv 0)) (.zv 2)))
  (.zc (.cO (.not (.attr .nW (.zv 3)))
  (.zc (.cG (.zv 1) (.zv 2) (.attr .dH (.zv 3)))
  .zn)
  .zn)
  .zn)) [2,3])
  (.zc (.ret (.cmp .eq (.aU .fE .dD .uq (.attr .b6 (.zv 0)) (.zc (.zv 1) .zn)) (.dI .nB)))
  .zn)))⟩
noncomputable def yj:aN:=
 ⟨1,1,.bS,
  (.zc (.cO (.cmp .gt (.bi .len (.zc (.attr .jD (.zv 0)) .zn)) (.zl (.int 0)))
  (.zc (.ret (.attr .xN (.idx (.attr .jD (.zv 0)) (.zl (.int 0)))))
  .zn)
  .zn)
  (.zc (.ret (.attr .jt (.zv 0)))
  .zn))⟩
noncomputable def sM:aN:=
 ⟨3,3,.keep,
  (.zc (.setAttr (.zv 0) .ir (.zv 1))
  (.zc (.setAttr (.zv 0) .ql (.zv 2))
  (.zc (.setAttr (.zv 0) .yd (.pQ .int))
  .zn)))⟩
noncomputable def B9:aN:=
 ⟨2,2,.keep,
  (.zc (.setAttr (.zv 0) .mL (.zv 1))
  (.zc (.setAttr (.zv 0) .gG (.zl (.int 0)))
  (.zc (.setAttr (.zv 0) .gK (.pQ .int))
  (.zc (.setAttr (.zv 0) .dZ (.zl (.bool false)))
  .zn))))⟩
noncomputable def BO:aN:=
 ⟨1,1,.keep,
  (.zc (.qx (.zv 0) .gG .add (.zl (.int 1)))
  .zn)⟩
noncomputable def zY:aN:=
 ⟨1,1,.bS,
  (.zc (.ret (.call .jW (.zc (.attr .gG (.zv 0)) .zn)))
  .zn)⟩
noncomputable def CB:aN:=
 ⟨3,4,.keep,
  (.zc (.cO (.cmp .lt (.bi .len (.zc (.zv 2) .zn)) (.zl (.int 8)))
  (.zc (.ret (.zl (.bytes [])))
  .zn)
  .zn)
  (.zc (.assign 3 (.call .oA (.zc (.zv 2) (.zc (.zl (.int 0)) .zn))))
  (.zc (.cO (.and (.zc (.cmp .le (.zv 3) (.attr .gG (.zv 0))) (.zc (.cmp .gt (.zv 3) (.me .get (.attr .gK (.zv 0)) (.zc (.zv 1) (.zc (.neg (.zl (.int 1))) .zn)))) .zn)))
  (.zc (.cG (.attr .gK (.zv 0)) (.zv 1) (.zv 3))
  .zn)
  .zn)
  (.zc (.ret (.slice (.zv 2) (.zc (.zl (.int 8)) .zn) .zn))
  .zn))))⟩
noncomputable def wK:aN:=
 ⟨1,1,.keep,
  (.zc (.setAttr (.zv 0) .dZ (.zl (.bool true)))
  .zn)⟩
noncomputable def zN:aN:=
 ⟨3,5,.bS,
  (.zc (.assign 3 (.pQ .int))
  (.zc (.iH (.aA 4) (.bi .sorted (.zc (.attr .gK (.zv 0)) .zn))
  (.zc (.cG (.zv 3) (.zv 4) (.cmp .lt (.cW .sub (.attr .gG (.zv 0)) (.idx (.attr .gK (.zv 0)) (.zv 4))) (.cW .sub (.attr .mL (.zv 0)) (.zl (.int 1)))))
  .zn) [4])
  (.zc (.cG (.zv 3) (.zv 2) (.zl (.bool true)))
  (.zc (.ret (.and (.zc (.not (.attr .dZ (.zv 0))) (.zc (.cmp .eq (.aU .fE .dD .uq (.zv 1) (.zc (.zv 3) .zn)) (.dI .nB)) .zn))))
  .zn))))⟩
noncomputable def v9:aN:=
 ⟨2,2,.keep,
  (.zc (.setAttr (.zv 0) .lU (.zv 1))
  (.zc (.setAttr (.zv 0) .iO (.zl (.int 0)))
  (.zc (.setAttr (.zv 0) .eG (.pQ .bytes))
  (.zc (.setAttr (.zv 0) .gO (.list .zn))
  .zn))))⟩
noncomputable def yL:aN:=
 ⟨3,4,.keep,
  (.zc (.qx (.zv 0) .iO .add (.zl (.int 1)))
  (.zc (.assign 3 (.call .jW (.zc (.attr .iO (.zv 0)) .zn)))
  (.zc (.cG (.attr .eG (.zv 0)) (.zv 3) (.new .xP (.zc (.zv 1) (.zc (.zv 2) .zn))))
  (.zc (.expr (.me .append (.attr .gO (.zv 0)) (.zc (.zv 3) .zn)))
  (.zc (.ret (.zv 3))
  .zn)))))⟩
noncomputable def yO:aN:=
 ⟨3,4,.keep,
  (.zc (.cO (.cmp .pI (.zv 2) (.attr .eG (.zv 0)))
  (.zc (.ret (.pQ .int))
  .zn)
  .zn)
  (.zc (.assign 3 (.idx (.attr .eG (.zv 0)) (.zv 2)))
  (.zc (.cG (.attr .yd (.zv 3)) (.zv 1) (.zl (.bool true)))
  (.zc (.ret (.attr .yd (.zv 3)))
  .zn))))⟩
noncomputable def rY:aN:=
 ⟨2,7,.keep,
  (.zc (.cO (.cmp .pI (.zv 1) (.attr .eG (.zv 0)))
  (.zc (.ret (.list .zn))
  .zn)
  .zn)
  (.zc (.assign 2 (.list .zn))
  (.zc (.assign 3 (.zl (.int 0)))
  (.zc (.assign 4 (.zl (.bool false)))
  (.zc (.rR (.not (.zv 4))
  (.zc (.assign 5 (.idx (.attr .gO (.zv 0)) (.zv 3)))
  (.zc (.Lq 3 .add (.zl (.int 1)))
  (.zc (.assign 6 (.me .pop (.attr .eG (.zv 0)) (.zc (.zv 5) .zn)))
  (.zc (.expr (.me .append (.zv 2) (.zc (.bJ (.zc (.attr .ir (.zv 6)) (.zc (.attr .ql (.zv 6)) .zn))) .zn)))
  (.zc (.assign 4 (.cmp .eq (.zv 5) (.zv 1)))
  .zn))))) [5,6])
  (.zc (.setAttr (.zv 0) .gO (.slice (.attr .gO (.zv 0)) (.zc (.zv 3) .zn) .zn))
  (.zc (.ret (.zv 2))
  .zn)))))))⟩
noncomputable def ng:aN:=
 ⟨1,1,.bS,
  (.zc (.cO (.cmp .eq (.bi .len (.zc (.attr .gO (.zv 0)) .zn)) (.zl (.int 0)))
  (.zc (.ret (.zl (.bytes [])))
  .zn)
  .zn)
  (.zc (.ret (.idx (.attr .gO (.zv 0)) (.neg (.zl (.int 1)))))
  .zn))⟩
noncomputable def yz:aN:=
 ⟨1,4,.bS,
  (.zc (.assign 1 (.list .zn))
  (.zc (.iH (.aA 2) (.attr .gO (.zv 0))
  (.zc (.assign 3 (.idx (.attr .eG (.zv 0)) (.zv 2)))
  (.zc (.expr (.me .append (.zv 1) (.zc (.bJ (.zc (.zv 2) (.zc (.attr .ir (.zv 3)) (.zc (.call .kN (.zc (.attr .ql (.zv 3)) .zn)) (.zc (.bi .tuple (.zc (.bi .sorted (.zc (.attr .yd (.zv 3)) .zn)) .zn)) .zn))))) .zn)))
  .zn)) [2,3])
  (.zc (.ret (.bJ (.zc (.attr .lU (.zv 0)) (.zc (.attr .iO (.zv 0)) (.zc (.bi .tuple (.zc (.zv 1) .zn)) .zn)))))
  .zn)))⟩
noncomputable def Gb:aN:=
 ⟨2,2,.bS,
  (.zc (.ret (.cW .add (.idx (.zv 0) (.cW .qA (.zv 1) (.bi .len (.zc (.zv 0) .zn)))) (.cW .mul (.zl (.int 7919)) (.cW .fdiv (.zv 1) (.bi .len (.zc (.zv 0) .zn))))))
  .zn)⟩
noncomputable def DR:aN:=
 ⟨4,12,.keep,
  (.zc (.assign 4 (.cmp .mem (.zl (.int 1)) (.zv 1)))
  (.zc (.cO (.and (.zc (.cmp .eq (.zv 2) (.zl (.int 0))) (.zc (.vR (.zv 3)) .zn)))
  (.zc (.cO (.not (.zv 4))
  (.zc (.ret (.list .zn))
  .zn)
  .zn)
  (.zc (.ret (.list (.zc (.comp (.aA 10) (.zv 0) .zn (.ite (.cmp .eq (.zv 10) (.zl (.int 3))) (.zl (.int 2)) (.zv 10))) (.zc (.comp (.aA 9) (.zv 0) .zn (.zl (.int 0))) (.zc (.zl (.bool false)) .zn)))))
  .zn))
  .zn)
  (.zc (.cO (.zv 4)
  (.zc (.ret (.list .zn))
  .zn)
  .zn)
  (.zc (.assign 5 (.or (.zc (.cmp .gt (.zv 2) (.zl (.int 0))) (.zc (.cmp .gt (.bi .len (.zc (.zv 3) .zn)) (.zl (.int 1))) .zn))))
  (.zc (.assign 6 (.slice (.zv 0) .zn .zn))
  (.zc (.iH (.iJ [7,8]) (.zv 3)
  (.zc (.cO (.cmp .eq (.zv 8) (.zl (.int 0)))
  (.zc .cont
  .zn)
  .zn)
  (.zc (.cO (.cmp .eq (.zv 7) (.zl (.int 0)))
  (.zc (.cG (.zv 6) (.zv 8) (.zl (.int 1)))
  .zn)
  (.zc (.cO (.cmp .eq (.zv 7) (.zl (.int 1)))
  (.zc (.cG (.zv 6) (.zv 8) (.zl (.int 0)))
  .zn)
  (.zc (.cO (.and (.zc (.cmp .eq (.zv 7) (.zl (.int 3))) (.zc (.zv 5) (.zc (.cmp .eq (.idx (.zv 0) (.zv 8)) (.zl (.int 1))) .zn))))
  (.zc (.cG (.zv 6) (.zv 8) (.zl (.int 3)))
  .zn)
  (.zc (.cO (.cmp .eq (.zv 7) (.zl (.int 3)))
  (.zc (.cG (.zv 6) (.zv 8) (.zl (.int 2)))
  .zn)
  .zn)
  .zn))
  .zn))
  .zn))
  .zn)) [7,8])
  (.zc (.cO (.cmp .pI (.zl (.int 1)) (.zv 6))
  (.zc (.ret (.list .zn))
  .zn)
  .zn)
  (.zc (.cO (.not (.zv 5))
  (.zc (.ret (.list (.zc (.zv 6) (.zc (.zv 1) (.zc (.zl (.bool false)) .zn)))))
  .zn)
  .zn)
  (.zc (.ret (.list (.zc (.zv 6) (.zc (.comp (.aA 11) (.zv 0) .zn (.ite (.cmp .eq (.zv 11) (.zl (.int 1))) (.zl (.int 1)) (.zl (.int 0)))) (.zc (.cmp .ne (.zv 2) (.zl (.int 2))) .zn)))))
  .zn)))))))))⟩
noncomputable def BS:aN:=
 ⟨1,5,.keep,
  (.zc (.assign 1 (.comp (.aA 3) (.bi .range (.zc (.zl (.int 6)) .zn)) (.zc (.cmp .eq (.idx (.idx (.zv 0) (.zl (.str 0))) (.zv 3)) (.zl (.int 1))) .zn) (.zv 3)))
  (.zc (.assign 2 (.comp (.aA 4) (.bi .range (.zc (.zl (.int 6)) .zn)) (.zc (.cmp .eq (.idx (.idx (.zv 0) (.zl (.str 1))) (.zv 4)) (.zl (.int 1))) .zn) (.zv 4)))
  (.zc (.cO (.vR (.zv 2))
  (.zc (.ret (.list (.zc (.zv 1) .zn)))
  .zn)
  .zn)
  (.zc (.ret (.list (.zc (.zv 1) (.zc (.zv 2) .zn))))
  .zn))))⟩
noncomputable def F2:aN:=
 ⟨2,4,.bS,
  (.zc (.ret (.bi .all (.zc (.comp (.aA 2) (.call .lJ (.zc (.zv 0) .zn)) .zn (.cmp .gt (.cW .mul (.zl (.int 2)) (.bi .len (.zc (.comp (.aA 3) (.zv 2) (.zc (.cmp .mem (.zv 3) (.zv 1)) .zn) (.zv 3)) .zn))) (.bi .len (.zc (.zv 2) .zn)))) .zn)))
  .zn)⟩
noncomputable def E5:aN:=
 ⟨2,4,.fresh,
  (.zc (.ret (.bi .sorted (.zc (.comp (.iJ [2,3]) (.idx (.zv 0) (.zl (.str 2))) (.zc (.cmp .eq (.zv 2) (.zv 1)) .zn) (.zv 3)) .zn)))
  .zn)⟩
noncomputable def EU:aN:=
 ⟨1,8,.bS,
  (.zc (.assign 1 (.idx (.zv 0) (.zl (.str 3))))
  (.zc (.assign 2 (.list .zn))
  (.zc (.iH (.aA 3) (.bi .range (.zc (.idx (.zv 0) (.zl (.str 5))) (.zc (.bi .len (.zc (.idx (.zv 0) (.zl (.str 4))) .zn)) .zn)))
  (.zc (.expr (.me .append (.zv 2) (.zc (.bJ (.zc (.idx (.idx (.zv 0) (.zl (.str 4))) (.zv 3)) (.zc (.idx (.idx (.idx (.zv 0) (.zl (.str 6))) (.zv 3)) (.zl (.int 0))) (.zc (.bi .bytes (.zc (.list (.zc (.zv 3) .zn)) .zn)) (.zc (.bi .tuple (.zc (.call .jB (.zc (.zv 0) (.zc (.zv 3) .zn))) .zn)) .zn))))) .zn)))
  .zn) [3])
  (.zc (.cO (.cmp .ne (.aU .fH .fO .ie (.zv 1) .zn) (.bJ (.zc (.dI .abu) (.zc (.bi .len (.zc (.idx (.zv 0) (.zl (.str 4))) .zn)) (.zc (.bi .tuple (.zc (.zv 2) .zn)) .zn)))))
  (.zc (.ret (.zl (.bool false)))
  .zn)
  .zn)
  (.zc (.assign 4 (.cW .add (.list (.zc (.zl (.int 1)) .zn)) (.comp (.iJ [6,7]) (.idx (.zv 0) (.zl (.str 7))) (.zc (.cmp .lt (.cW .sub (.idx (.zv 0) (.zl (.str 8))) (.zv 7)) (.cW .sub (.idx (.zv 0) (.zl (.str 9))) (.zl (.int 1)))) .zn) (.zv 6))))
  (.zc (.assign 5 (.and (.zc (.not (.idx (.zv 0) (.zl (.str 10)))) (.zc (.call .fR (.zc (.zv 0) (.zc (.zv 4) .zn))) .zn))))
  (.zc (.ret (.cmp .eq (.aU .jQ .kr .Bt (.idx (.zv 0) (.zl (.str 11))) (.zc (.attr .b6 (.idx (.zv 0) (.zl (.str 12)))) (.zc (.zl (.int 1)) .zn))) (.zv 5)))
  .zn)))))))⟩
noncomputable def B4:aN:=
 ⟨1,31,.bS,
  (.zc (.assign 1 (.idx (.zv 0) (.zl (.str 12))))
  (.zc (.assign 2 (.idx (.zv 0) (.zl (.str 0))))
  (.zc (.assign 3 (.idx (.zv 0) (.zl (.str 1))))
  (.zc (.assign 4 (.bi .range (.zc (.zl (.int 6)) .zn)))
  (.zc (.assign 5 (.list (.zc (.bi .tuple (.zc (.comp (.aA 23) (.zv 4) (.zc (.cmp .eq (.idx (.zv 2) (.zv 23)) (.zl (.int 1))) .zn) (.zv 23)) .zn)) (.zc (.bi .tuple (.zc (.comp (.aA 22) (.zv 4) (.zc (.cmp .eq (.idx (.zv 3) (.zv 22)) (.zl (.int 1))) .zn) (.zv 22)) .zn)) (.zc (.bi .tuple (.zc (.comp (.aA 21) (.zv 4) (.zc (.cmp .eq (.idx (.zv 2) (.zv 21)) (.zl (.int 2))) .zn) (.zv 21)) .zn)) (.zc (.bi .tuple (.zc (.comp (.aA 20) (.zv 4) (.zc (.cmp .eq (.idx (.zv 2) (.zv 20)) (.zl (.int 3))) .zn) (.zv 20)) .zn)) (.zc (.idx (.zv 0) (.zl (.str 13))) .zn)))))))
  (.zc (.cO (.cmp .ne (.aU .oN .dD .ie (.attr .b6 (.zv 1)) .zn) (.bi .tuple (.zc (.zv 5) .zn)))
  (.zc (.ret (.zl (.bool false)))
  .zn)
  .zn)
  (.zc (.assign 6 (.idx (.zv 0) (.zl (.str 14))))
  (.zc (.assign 7 (.comp (.aA 24) (.zv 4) (.zc (.or (.zc (.cmp .gt (.idx (.zv 2) (.zv 24)) (.zl (.int 0))) (.zc (.cmp .eq (.idx (.zv 3) (.zv 24)) (.zl (.int 1))) .zn))) .zn) (.zv 24)))
  (.zc (.cO (.cmp .ne (.aU .fD .cX .AP (.zv 1) .zn) (.zv 7))
  (.zc (.ret (.zl (.bool false)))
  .zn)
  .zn)
  (.zc (.iH (.aA 8) (.zv 7)
  (.zc (.unpack [9,10,11,12,13] (.idx (.zv 6) (.zv 8)))
  (.zc (.assign 14 (.bJ (.zc (.zv 9) (.zc (.zv 10) (.zc (.zv 11) (.zc (.zv 12) (.zc (.zv 13) (.zc (.zl (.bool false)) (.zc (.cmp .eq (.idx (.zv 2) (.zv 8)) (.zl (.int 2))) (.zc (.bJ (.zc (.zl (.int 2)) (.zc (.zl (.int 0)) (.zc (.zl (.int 0)) (.zc (.bJ .zn) .zn))))) .zn))))))))))
  (.zc (.cO (.cmp .ne (.aU .i7 .jX .ie (.idx (.attr .bL (.zv 1)) (.zv 8)) .zn) (.zv 14))
  (.zc (.ret (.zl (.bool false)))
  .zn)
  .zn)
  .zn))) [8,9,10,11,12,13,14])
  (.zc (.assign 15 (.comp (.aA 25) (.zv 4) (.zc (.or (.zc (.cmp .eq (.idx (.zv 2) (.zv 25)) (.zl (.int 1))) (.zc (.cmp .eq (.idx (.zv 3) (.zv 25)) (.zl (.int 1))) .zn))) .zn) (.zv 25)))
  (.zc (.assign 16 (.comp (.aA 26) (.zv 15) (.zc (.cmp .mem (.bJ (.zc (.zv 26) (.zc (.zl (.bool true)) .zn))) (.idx (.zv 0) (.zl (.str 15)))) .zn) (.zv 26)))
  (.zc (.assign 17 (.comp (.aA 27) (.zv 15) (.zc (.cmp .mem (.bJ (.zc (.zv 27) (.zc (.zl (.bool false)) .zn))) (.idx (.zv 0) (.zl (.str 15)))) .zn) (.zv 27)))
  (.zc (.assign 18 (.dI .kP))
  (.zc (.cO (.call .fR (.zc (.zv 0) (.zc (.zv 16) .zn)))
  (.zc (.assign 18 (.dI .nB))
  .zn)
  (.zc (.cO (.not (.call .fR (.zc (.zv 0) (.zc (.comp (.aA 28) (.zv 15) (.zc (.cmp .pI (.zv 28) (.zv 17)) .zn) (.zv 28)) .zn))))
  (.zc (.assign 18 (.dI .ju))
  .zn)
  .zn)
  .zn))
  (.zc (.cO (.cmp .ne (.aU .fU .cX .Bs (.zv 1) .zn) (.bJ (.zc (.bi .len (.zc (.zv 16) .zn)) (.zc (.bi .len (.zc (.zv 17) .zn)) (.zc (.zv 18) .zn)))))
  (.zc (.ret (.zl (.bool false)))
  .zn)
  .zn)
  (.zc (.assign 19 (.zl (.int 0)))
  (.zc (.iH (.aA 8) (.zv 15)
  (.zc (.cO (.and (.zc (.cmp .gt (.idx (.idx (.zv 6) (.zv 8)) (.zl (.int 0))) (.zv 19)) (.zc (.call .fR (.zc (.zv 0) (.zc (.comp (.aA 29) (.zv 15) (.zc (.cmp .ge (.idx (.idx (.zv 6) (.zv 29)) (.zl (.int 0))) (.idx (.idx (.zv 6) (.zv 8)) (.zl (.int 0)))) .zn) (.zv 29)) .zn))) .zn)))
  (.zc (.assign 19 (.idx (.idx (.zv 6) (.zv 8)) (.zl (.int 0))))
  .zn)
  .zn)
  .zn) [8])
  (.zc (.cO (.cmp .ne (.aU .eL .cX .iF (.zv 1) .zn) (.zv 19))
  (.zc (.ret (.zl (.bool false)))
  .zn)
  .zn)
  (.zc (.cO (.cmp .ne (.aU .cE .cX .j9 (.zv 1) .zn) (.call .fR (.zc (.zv 0) (.zc (.comp (.aA 30) (.zv 15) (.zc (.idx (.idx (.zv 6) (.zv 30)) (.zl (.int 4))) .zn) (.zv 30)) .zn))))
  (.zc (.ret (.zl (.bool false)))
  .zn)
  .zn)
  (.zc (.ret (.cmp .eq (.aU .iQ .cX .xM (.zv 1) .zn) (.and (.zc (.cmp .eq (.bi .len (.zc (.idx (.zv 5) (.zl (.int 0))) .zn)) (.zl (.int 1))) (.zc (.cmp .eq (.idx (.zv 5) (.zl (.int 1))) (.bJ .zn)) .zn)))))
  .zn)))))))))))))))))))))⟩
noncomputable def z5:aN:=
 ⟨1,3,.keep,
  (.zc (.assign 1 (.pQ .int))
  (.zc (.iH (.aA 2) (.bi .range (.zc (.zl (.int 6)) .zn))
  (.zc (.cO (.or (.zc (.cmp .gt (.idx (.idx (.zv 0) (.zl (.str 0))) (.zv 2)) (.zl (.int 0))) (.zc (.cmp .eq (.idx (.idx (.zv 0) (.zl (.str 1))) (.zv 2)) (.zl (.int 1))) .zn)))
  (.zc (.cG (.zv 1) (.zv 2) (.list (.zc (.zl (.int 0)) (.zc (.bi .max (.zc (.idx (.zv 0) (.zl (.str 16))) (.zc (.zl (.int 1)) .zn))) (.zc (.zl (.int 0)) (.zc (.zl (.int 0)) (.zc (.zl (.bool true)) .zn)))))))
  (.zc (.cO (.cmp .mem (.zv 2) (.idx (.zv 0) (.zl (.str 14))))
  (.zc (.cG (.zv 1) (.zv 2) (.idx (.idx (.zv 0) (.zl (.str 14))) (.zv 2)))
  .zn)
  .zn)
  .zn))
  .zn)
  .zn) [2])
  (.zc (.cG (.zv 0) (.zl (.str 14)) (.zv 1))
  .zn)))⟩
noncomputable def BE:aN:=
 ⟨2,9,.keep,
  (.zc (.rD (.zv 0) (.zl (.str 17)) .add (.zl (.int 1)))
  (.zc (.assign 2 (.idx (.list (.zc (.zl (.int 1)) (.zc (.zl (.int 1)) (.zc (.zl (.int 2)) (.zc (.zl (.int 0)) (.zc (.zl (.int 3)) (.zc (.zl (.int 1)) (.zc (.zl (.int 0)) (.zc (.zl (.int 2)) .zn))))))))) (.cW .qA (.zv 1) (.zl (.int 8)))))
  (.zc (.assign 3 (.idx (.list (.zc (.zl (.int 0)) (.zc (.zl (.int 0)) (.zc (.zl (.int 0)) (.zc (.zl (.int 1)) (.zc (.zl (.int 2)) (.zc (.zl (.int 0)) .zn))))))) (.cW .qA (.cW .fdiv (.zv 1) (.zl (.int 8))) (.zl (.int 6)))))
  (.zc (.cO (.and (.zc (.cmp .mem (.zl (.int 1)) (.idx (.zv 0) (.zl (.str 1)))) (.zc (.cmp .gt (.cW .qA (.cW .fdiv (.zv 1) (.zl (.int 48))) (.zl (.int 4))) (.zl (.int 0))) .zn)))
  (.zc (.assign 2 (.zl (.int 0)))
  (.zc (.assign 3 (.zl (.int 0)))
  .zn))
  .zn)
  (.zc (.assign 4 (.list .zn))
  (.zc (.iH (.aA 5) (.bi .range (.zc (.zv 2) .zn))
  (.zc (.assign 6 (.cW .qA (.cW .fdiv (.cW .fdiv (.zv 1) (.zl (.int 48))) (.cW .pow (.zl (.int 24)) (.zv 5))) (.zl (.int 24))))
  (.zc (.expr (.me .append (.zv 4) (.zc (.bJ (.zc (.cW .qA (.zv 6) (.zl (.int 4))) (.zc (.cW .qA (.cW .fdiv (.zv 6) (.zl (.int 4))) (.zl (.int 6))) .zn))) .zn)))
  .zn)) [5,6])
  (.zc (.assign 7 (.call .b9 (.zc (.idx (.zv 0) (.zl (.str 0))) (.zc (.idx (.zv 0) (.zl (.str 1))) (.zc (.zv 3) (.zc (.zv 4) .zn))))))
  (.zc (.JX 8 (.call .bG (.zc (.attr .b6 (.idx (.zv 0) (.zl (.str 12)))) (.zc (.new .eW (.zc (.zv 3) (.zc (.zv 4) (.zc (.zl (.bytes [])) .zn)))) .zn)))
  (.zc (.ret (.and (.zc (.vR (.zv 7)) (.zc (.call .aK (.zc (.zv 0) .zn)) .zn))))
  .zn))
  (.zc (.cO (.vR (.zv 7))
  (.zc (.ret (.zl (.bool false)))
  .zn)
  .zn)
  (.zc (.expr (.aU .bB .cX .xB (.idx (.zv 0) (.zl (.str 12))) (.zc (.zv 8) (.zc (.idx (.zv 0) (.zl (.str 16))) .zn))))
  (.zc (.expr (.me .append (.attr .cy (.zv 8)) (.zc (.zl (.int 6)) .zn)))
  (.zc (.expr (.me .append (.attr .cI (.zv 8)) (.zc (.zl (.int 6)) .zn)))
  (.zc (.cG (.zv 0) (.zl (.str 0)) (.idx (.zv 7) (.zl (.int 0))))
  (.zc (.cG (.zv 0) (.zl (.str 1)) (.idx (.zv 7) (.zl (.int 1))))
  (.zc (.cG (.zv 0) (.zl (.str 13)) (.idx (.zv 7) (.zl (.int 2))))
  (.zc (.expr (.call .cN (.zc (.zv 0) .zn)))
  (.zc (.ret (.call .aK (.zc (.zv 0) .zn)))
  .zn)))))))))))))))))⟩
noncomputable def KU:aN:=
 ⟨3,11,.keep,
  (.zc (.assign 3 (.idx (.idx (.zv 0) (.zl (.str 4))) (.zv 2)))
  (.zc (.cO (.cmp .pI (.bJ (.zc (.zv 2) (.zc (.zv 1) .zn))) (.idx (.zv 0) (.zl (.str 2))))
  (.zc (.expr (.me .append (.idx (.zv 0) (.zl (.str 2))) (.zc (.bJ (.zc (.zv 2) (.zc (.zv 1) .zn))) .zn)))
  .zn)
  .zn)
  (.zc (.assign 4 (.call .jB (.zc (.zv 0) (.zc (.zv 2) .zn))))
  (.zc (.assign 5 (.aU .sF .fO .M0 (.idx (.zv 0) (.zl (.str 3))) (.zc (.zv 1) (.zc (.zv 3) .zn))))
  (.zc (.cO (.cmp .lt (.zv 2) (.idx (.zv 0) (.zl (.str 5))))
  (.zc (.ret (.cmp .eq (.bi .len (.zc (.zv 5) .zn)) (.zl (.int 0))))
  .zn)
  .zn)
  (.zc (.assign 6 (.call .fR (.zc (.zv 0) (.zc (.zv 4) .zn))))
  (.zc (.cO (.or (.zc (.cmp .ne (.bi .sorted (.zc (.zv 5) .zn)) (.zv 4)) (.zc (.cmp .ne (.cmp .eq (.aU .fE .dD .uq (.attr .b6 (.idx (.zv 0) (.zl (.str 12)))) (.zc (.zv 5) .zn)) (.dI .nB)) (.zv 6)) .zn)))
  (.zc (.ret (.zl (.bool false)))
  .zn)
  .zn)
  (.zc (.cO (.not (.zv 6))
  (.zc (.ret (.zl (.bool true)))
  .zn)
  .zn)
  (.zc (.assign 7 (.comp (.iJ [9,10]) (.aU .c7 .fO .uw (.idx (.zv 0) (.zl (.str 3))) (.zc (.zv 3) .zn)) .zn (.bJ (.zc (.zv 9) (.zc (.aU .gu .oE .ie (.zv 10) .zn) .zn)))))
  (.zc (.assign 8 (.slice (.idx (.zv 0) (.zl (.str 6))) (.zc (.idx (.zv 0) (.zl (.str 5))) .zn) (.zc (.cW .add (.zv 2) (.zl (.int 1))) .zn)))
  (.zc (.cG (.zv 0) (.zl (.str 5)) (.cW .add (.zv 2) (.zl (.int 1))))
  (.zc (.ret (.cmp .eq (.zv 7) (.zv 8)))
  .zn))))))))))))⟩
noncomputable def FF:aN:=
 ⟨2,6,.keep,
  (.zc (.assign 2 (.bi .len (.zc (.idx (.zv 0) (.zl (.str 4))) .zn)))
  (.zc (.assign 3 (.new .oE (.zc (.dI .yF) (.zc (.zl (.int 1)) (.zc (.cW .add (.zl (.int 2)) (.cW .qA (.zv 1) (.zl (.int 4)))) (.zc (.zl (.int 0)) .zn))))))
  (.zc (.expr (.me .append (.attr .jD (.zv 3)) (.zc (.new .A9 (.zc (.zl (.int 0)) (.zc (.zl (.int 0)) (.zc (.zl (.int 0)) (.zc (.bi .bytes (.zc (.list (.zc (.zv 2) .zn)) .zn)) .zn))))) .zn)))
  (.zc (.assign 4 (.cW .sub (.idx (.zv 0) (.zl (.str 16))) (.cW .qA (.cW .fdiv (.zv 1) (.zl (.int 4))) (.zl (.int 3)))))
  (.zc (.assign 5 (.aU .sW .fO .I0 (.idx (.zv 0) (.zl (.str 3))) (.zc (.zv 4) (.zc (.zv 3) .zn))))
  (.zc (.cO (.or (.zc (.cmp .mem (.zv 5) (.idx (.zv 0) (.zl (.str 4)))) (.zc (.cmp .eq (.zv 5) (.zl (.bytes []))) .zn)))
  (.zc (.ret (.zl (.bool false)))
  .zn)
  .zn)
  (.zc (.expr (.me .append (.idx (.zv 0) (.zl (.str 4))) (.zc (.zv 5) .zn)))
  (.zc (.expr (.me .append (.idx (.zv 0) (.zl (.str 6))) (.zc (.bJ (.zc (.zv 4) (.zc (.aU .gu .oE .ie (.zv 3) .zn) .zn))) .zn)))
  (.zc (.expr (.me .append (.idx (.zv 0) (.zl (.str 18))) (.zc (.bJ (.zc (.idx (.zv 0) (.zl (.str 8))) (.zc (.zv 2) (.zc (.cW .add (.aU .j5 .kr .wR (.idx (.zv 0) (.zl (.str 11))) .zn) (.zv 5)) .zn)))) .zn)))
  (.zc (.ret (.call .ee (.zc (.zv 0) (.zc (.zl (.int 1)) (.zc (.zv 2) .zn)))))
  .zn))))))))))⟩
noncomputable def GW:aN:=
 ⟨2,4,.keep,
  (.zc (.assign 2 (.zl (.bytes [])))
  (.zc (.assign 3 (.neg (.zl (.int 1))))
  (.zc (.cO (.and (.zc (.cmp .gt (.cW .qA (.zv 1) (.zl (.int 4))) (.zl (.int 0))) (.zc (.cmp .lt (.idx (.zv 0) (.zl (.str 5))) (.bi .len (.zc (.idx (.zv 0) (.zl (.str 4))) .zn))) .zn)))
  (.zc (.assign 3 (.cW .sub (.bi .len (.zc (.idx (.zv 0) (.zl (.str 4))) .zn)) (.zl (.int 1))))
  (.zc (.assign 2 (.aU .jq .fO .lM (.idx (.zv 0) (.zl (.str 3))) .zn))
  (.zc (.cO (.cmp .ne (.zv 2) (.idx (.idx (.zv 0) (.zl (.str 4))) (.zv 3)))
  (.zc (.ret (.zl (.bool false)))
  .zn)
  .zn)
  .zn)))
  .zn)
  (.zc (.expr (.me .append (.idx (.zv 0) (.zl (.str 18))) (.zc (.bJ (.zc (.idx (.zv 0) (.zl (.str 8))) (.zc (.zv 3) (.zc (.cW .add (.aU .j5 .kr .wR (.idx (.zv 0) (.zl (.str 11))) .zn) (.zv 2)) .zn)))) .zn)))
  (.zc (.ret (.or (.zc (.cmp .lt (.zv 3) (.zl (.int 0))) (.zc (.call .ee (.zc (.zv 0) (.zc (.zl (.int 1)) (.zc (.zv 3) .zn)))) .zn))))
  .zn)))))⟩
noncomputable def Bw:aN:=
 ⟨2,8,.keep,
  (.zc (.assign 2 (.idx (.list (.zc (.zl (.int 2)) (.zc (.zl (.int 3)) (.zc (.zl (.int 4)) (.zc (.zl (.int 5)) (.zc (.zl (.int 2)) (.zc (.zl (.int 3)) (.zc (.zl (.int 6)) .zn)))))))) (.cW .qA (.zv 1) (.zl (.int 7)))))
  (.zc (.assign 3 (.slice (.idx (.zv 0) (.zl (.str 18))) (.zc (.neg (.zl (.int 8))) .zn) .zn))
  (.zc (.unpack [4,5,6] (.idx (.zv 3) (.cW .sub (.neg (.zl (.int 1))) (.cW .qA (.cW .fdiv (.zv 1) (.zl (.int 7))) (.bi .len (.zc (.zv 3) .zn))))))
  (.zc (.assign 7 (.zl (.bytes [])))
  (.zc (.cO (.cmp .ge (.zv 5) (.zl (.int 0)))
  (.zc (.assign 7 (.idx (.idx (.zv 0) (.zl (.str 4))) (.zv 5)))
  .zn)
  .zn)
  (.zc (.cO (.cmp .ne (.aU .lG .kr .HG (.idx (.zv 0) (.zl (.str 11))) (.zc (.zv 2) (.zc (.zv 6) .zn))) (.zv 7))
  (.zc (.ret (.zl (.bool false)))
  .zn)
  .zn)
  (.zc (.expr (.me .append (.idx (.zv 0) (.zl (.str 7))) (.zc (.bJ (.zc (.zv 2) (.zc (.zv 4) .zn))) .zn)))
  (.zc (.cO (.cmp .mem (.zv 2) (.idx (.zv 0) (.zl (.str 14))))
  (.zc (.setAttr (.idx (.attr .bL (.idx (.zv 0) (.zl (.str 12)))) (.zv 2)) .dH (.zl (.bool true)))
  (.zc (.cG (.idx (.idx (.zv 0) (.zl (.str 14))) (.zv 2)) (.zl (.int 4)) (.zl (.bool true)))
  .zn))
  .zn)
  (.zc (.ret (.or (.zc (.cmp .lt (.zv 5) (.zl (.int 0))) (.zc (.call .ee (.zc (.zv 0) (.zc (.zv 2) (.zc (.zv 5) .zn)))) .zn))))
  .zn)))))))))⟩
noncomputable def GA:aN:=
 ⟨2,6,.keep,
  (.zc (.rD (.zv 0) (.zl (.str 16)) .add (.cW .qA (.cW .fdiv (.zv 1) (.zl (.int 40))) (.zl (.int 3))))
  (.zc (.assign 2 (.cW .add (.zl (.int 1)) (.cW .qA (.zv 1) (.zl (.int 5)))))
  (.zc (.cO (.cmp .pI (.zv 2) (.idx (.zv 0) (.zl (.str 14))))
  (.zc (.ret (.zl (.bool true)))
  .zn)
  .zn)
  (.zc (.assign 3 (.idx (.idx (.zv 0) (.zl (.str 14))) (.zv 2)))
  (.zc (.assign 4 (.cW .sub (.idx (.zv 0) (.zl (.str 16))) (.cW .qA (.cW .fdiv (.zv 1) (.zl (.int 5))) (.zl (.int 8)))))
  (.zc (.assign 5 (.cmp .gt (.zv 4) (.idx (.zv 3) (.zl (.int 0)))))
  (.zc (.cO (.zv 5)
  (.zc (.cG (.zv 3) (.zl (.int 0)) (.zv 4))
  (.zc (.cG (.zv 3) (.zl (.int 1)) (.bi .max (.zc (.idx (.zv 3) (.zl (.int 1))) (.zc (.cW .add (.zv 4) (.zl (.int 1))) .zn))))
  .zn))
  .zn)
  (.zc (.ret (.cmp .eq (.aU .jr .jX .lT (.idx (.attr .bL (.idx (.zv 0) (.zl (.str 12)))) (.zv 2)) (.zc (.zv 4) .zn)) (.zv 5)))
  .zn))))))))⟩
noncomputable def Ga:aN:=
 ⟨2,4,.keep,
  (.zc (.cO (.cmp .eq (.cW .qA (.zv 1) (.zl (.int 11))) (.zl (.int 10)))
  (.zc (.expr (.aU .kD .cX .mT (.idx (.zv 0) (.zl (.str 12))) .zn))
  (.zc (.cG (.zv 0) (.zl (.str 15)) (.list .zn))
  (.zc (.ret (.zl (.bool true)))
  .zn)))
  .zn)
  (.zc (.assign 2 (.cW .add (.zl (.int 1)) (.cW .qA (.zv 1) (.zl (.int 6)))))
  (.zc (.assign 3 (.cmp .gt (.cW .qA (.cW .fdiv (.zv 1) (.zl (.int 6))) (.zl (.int 3))) (.zl (.int 0))))
  (.zc (.expr (.aU .kq .cX .mR (.idx (.zv 0) (.zl (.str 12))) (.zc (.zv 2) (.zc (.zv 3) .zn))))
  (.zc (.cO (.and (.zc (.cmp .pI (.bJ (.zc (.zv 2) (.zc (.zl (.bool true)) .zn))) (.idx (.zv 0) (.zl (.str 15)))) (.zc (.cmp .pI (.bJ (.zc (.zv 2) (.zc (.zl (.bool false)) .zn))) (.idx (.zv 0) (.zl (.str 15)))) .zn)))
  (.zc (.expr (.me .append (.idx (.zv 0) (.zl (.str 15))) (.zc (.bJ (.zc (.zv 2) (.zc (.zv 3) .zn))) .zn)))
  .zn)
  .zn)
  (.zc (.ret (.zl (.bool true)))
  .zn))))))⟩
noncomputable def GX:aN:=
 ⟨2,4,.keep,
  (.zc (.iH (.aA 2) (.bi .range (.zc (.cW .add (.zl (.int 1)) (.cW .qA (.zv 1) (.zl (.int 3)))) .zn))
  (.zc (.expr (.aU .yv .kr .GS (.idx (.zv 0) (.zl (.str 11))) .zn))
  (.zc (.rD (.zv 0) (.zl (.str 8)) .add (.zl (.int 1)))
  .zn)) [2])
  (.zc (.iH (.aA 3) (.aU .fD .cX .AP (.idx (.zv 0) (.zl (.str 12))) .zn)
  (.zc (.cO (.and (.zc (.cmp .eq (.cW .qA (.cW .fdiv (.zv 1) (.zl (.int 3))) (.zl (.int 3))) (.zl (.int 0))) (.zc (.cmp .ne (.zv 3) (.zl (.int 1))) .zn)))
  (.zc (.setAttr (.idx (.attr .bL (.idx (.zv 0) (.zl (.str 12)))) (.zv 3)) .dH (.zl (.bool false)))
  (.zc (.cG (.idx (.idx (.zv 0) (.zl (.str 14))) (.zv 3)) (.zl (.int 4)) (.zl (.bool false)))
  .zn))
  .zn)
  .zn) [3])
  (.zc (.ret (.zl (.bool true)))
  .zn)))⟩
noncomputable def FT:aN:=
 ⟨2,4,.keep,
  (.zc (.cO (.cmp .eq (.cW .qA (.zv 1) (.zl (.int 9))) (.zl (.int 8)))
  (.zc (.expr (.aU .qZ .kr .uD (.idx (.zv 0) (.zl (.str 11))) .zn))
  (.zc (.cG (.zv 0) (.zl (.str 10)) (.zl (.bool true)))
  .zn))
  .zn)
  (.zc (.assign 2 (.cW .add (.zl (.int 1)) (.cW .qA (.zv 1) (.zl (.int 5)))))
  (.zc (.cO (.cmp .mem (.zv 2) (.idx (.zv 0) (.zl (.str 14))))
  (.zc (.assign 3 (.idx (.idx (.zv 0) (.zl (.str 14))) (.zv 2)))
  (.zc (.cO (.cmp .eq (.cW .qA (.cW .fdiv (.zv 1) (.zl (.int 5))) (.zl (.int 2))) (.zl (.int 0)))
  (.zc (.expr (.aU .gR .jX .iA (.idx (.attr .bL (.idx (.zv 0) (.zl (.str 12)))) (.zv 2)) .zn))
  (.zc (.cG (.idx (.zv 0) (.zl (.str 14))) (.zv 2) (.list (.zc (.idx (.zv 3) (.zl (.int 0))) (.zc (.cW .add (.idx (.zv 3) (.zl (.int 0))) (.zl (.int 1))) (.zc (.zl (.int 1)) (.zc (.zl (.int 0)) (.zc (.idx (.zv 3) (.zl (.int 4))) .zn)))))))
  .zn))
  (.zc (.expr (.aU .ia .jX .iN (.idx (.attr .bL (.idx (.zv 0) (.zl (.str 12)))) (.zv 2)) (.zc (.idx (.zv 0) (.zl (.str 16))) .zn)))
  (.zc (.cG (.idx (.zv 0) (.zl (.str 14))) (.zv 2) (.list (.zc (.idx (.zv 3) (.zl (.int 0))) (.zc (.idx (.zv 3) (.zl (.int 1))) (.zc (.zl (.int 2)) (.zc (.idx (.zv 0) (.zl (.str 16))) (.zc (.idx (.zv 3) (.zl (.int 4))) .zn)))))))
  .zn)))
  .zn))
  .zn)
  (.zc (.ret (.zl (.bool true)))
  .zn))))⟩
noncomputable def KS:aN:=
 ⟨2,4,.keep,
  (.zc (.assign 2 (.cW .qA (.zv 1) (.zl (.int 12))))
  (.zc (.assign 3 (.cW .fdiv (.zv 1) (.zl (.int 12))))
  (.zc (.cO (.and (.zc (.cmp .mem (.zv 2) (.bJ (.zc (.zl (.int 0)) (.zc (.zl (.int 3)) (.zc (.zl (.int 6)) (.zc (.zl (.int 9)) .zn)))))) (.zc (.cmp .lt (.idx (.zv 0) (.zl (.str 17))) (.zl (.int 6))) .zn)))
  (.zc (.ret (.call .cg (.zc (.zv 0) (.zc (.zv 3) .zn))))
  .zn)
  .zn)
  (.zc (.cO (.or (.zc (.cmp .eq (.zv 2) (.zl (.int 1))) (.zc (.cmp .eq (.zv 2) (.zl (.int 0))) .zn)))
  (.zc (.ret (.call .gk (.zc (.zv 0) (.zc (.zv 3) .zn))))
  .zn)
  .zn)
  (.zc (.cO (.cmp .eq (.zv 2) (.zl (.int 4)))
  (.zc (.ret (.call .nG (.zc (.zv 0) (.zc (.zv 3) .zn))))
  .zn)
  .zn)
  (.zc (.cO (.or (.zc (.cmp .eq (.zv 2) (.zl (.int 2))) (.zc (.cmp .eq (.zv 2) (.zl (.int 8))) .zn)))
  (.zc (.ret (.call .jU (.zc (.zv 0) (.zc (.zv 3) .zn))))
  .zn)
  .zn)
  (.zc (.cO (.cmp .eq (.zv 2) (.zl (.int 10)))
  (.zc (.ret (.call .fP (.zc (.zv 0) (.zc (.zv 3) .zn))))
  .zn)
  .zn)
  (.zc (.cO (.cmp .eq (.zv 2) (.zl (.int 7)))
  (.zc (.ret (.call .lu (.zc (.zv 0) (.zc (.zv 3) .zn))))
  .zn)
  .zn)
  (.zc (.cO (.and (.zc (.cmp .eq (.zv 2) (.zl (.int 5))) (.zc (.cmp .eq (.cW .qA (.zv 3) (.zl (.int 3))) (.zl (.int 0))) .zn)))
  (.zc (.ret (.call .gr (.zc (.zv 0) (.zc (.cW .fdiv (.zv 3) (.zl (.int 3))) .zn))))
  .zn)
  .zn)
  (.zc (.ret (.call .dG (.zc (.zv 0) (.zc (.zv 3) .zn))))
  .zn))))))))))⟩
noncomputable def agx:aN:=
 ⟨1,13,.keep,
  (.zc (.assign 1 (.comp (.aA 10) (.slice (.zv 0) .zn (.zc (.zl (.int 15)) .zn)) .zn (.cW .qA (.zv 10) (.zl (.int 999983)))))
  (.zc (.cO (.cmp .eq (.bi .len (.zc (.zv 1) .zn)) (.zl (.int 0)))
  (.zc (.assign 1 (.list (.zc (.zl (.int 0)) .zn)))
  .zn)
  .zn)
  (.zc (.assign 2 (.call .eH (.zc (.zv 1) (.zc (.zl (.int 0)) .zn))))
  (.zc (.assign 3 (.list (.zc (.zl (.int 0)) (.zc (.zl (.int 1)) .zn))))
  (.zc (.iH (.aA 4) (.bi .range (.zc (.zl (.int 4)) .zn))
  (.zc (.expr (.me .append (.zv 3) (.zc (.idx (.list (.zc (.zl (.int 1)) (.zc (.zl (.int 1)) (.zc (.zl (.int 2)) (.zc (.zl (.int 0)) .zn))))) (.cW .qA (.cW .fdiv (.zv 2) (.cW .pow (.zl (.int 4)) (.zv 4))) (.zl (.int 4)))) .zn)))
  .zn) [4])
  (.zc (.assign 5 (.cW .add (.zl (.int 2)) (.cW .qA (.cW .fdiv (.zv 2) (.zl (.int 256))) (.zl (.int 5)))))
  (.zc (.assign 6 (.comp (.aA 11) (.bJ (.zc (.zl (.int 1)) (.zc (.zl (.int 2)) .zn))) .zn (.comp (.aA 12) (.bi .range (.zc (.zl (.int 6)) .zn)) (.zc (.cmp .eq (.idx (.zv 3) (.zv 12)) (.zv 11)) .zn) (.zv 12))))
  (.zc (.assign 7 (.new .cX (.zc (.zl (.int 2)) (.zc (.zl (.int 0)) .zn))))
  (.zc (.expr (.aU .bB .cX .xB (.zv 7) (.zc (.new .dD (.zc (.idx (.zv 6) (.zl (.int 0))) (.zc (.list .zn) (.zc (.idx (.zv 6) (.zl (.int 1))) (.zc (.list .zn) (.zc (.zl (.bool false)) .zn)))))) (.zc (.zl (.int 9)) .zn))))
  (.zc (.assign 8 (.dict [0,1,13,12,14,16,11,9,8,7,10,3,4,6,18,2,5,15,17] (.zc (.zv 3) (.zc (.list (.zc (.zl (.int 0)) (.zc (.zl (.int 0)) (.zc (.zl (.int 0)) (.zc (.zl (.int 0)) (.zc (.zl (.int 0)) (.zc (.zl (.int 0)) .zn))))))) (.zc (.zl (.bool false)) (.zc (.zv 7) (.zc (.pQ .int) (.zc (.zl (.int 9)) (.zc (.new .kr (.zc (.zv 5) .zn)) (.zc (.zv 5) (.zc (.zl (.int 0)) (.zc (.list .zn) (.zc (.zl (.bool false)) (.zc (.new .fO (.zc (.dI .abu) .zn)) (.zc (.list .zn) (.zc (.list .zn) (.zc (.list .zn) (.zc (.list .zn) (.zc (.zl (.int 0)) (.zc (.list .zn) (.zc (.zl (.int 0)) .zn)))))))))))))))))))))
  (.zc (.expr (.call .cN (.zc (.zv 8) .zn)))
  (.zc (.cO (.or (.zc (.not (.call .gk (.zc (.zv 8) (.zc (.call .eH (.zc (.zv 1) (.zc (.zl (.int 1)) .zn))) .zn)))) (.zc (.not (.call .cg (.zc (.zv 8) (.zc (.call .eH (.zc (.zv 1) (.zc (.zl (.int 2)) .zn))) .zn)))) .zn)))
  (.zc (.ret (.zl (.bool false)))
  .zn)
  .zn)
  (.zc (.iH (.aA 9) (.bi .range (.zc (.zl (.int 3)) (.zc (.zl (.int 15)) .zn)))
  (.zc (.cO (.or (.zc (.not (.call .dh (.zc (.zv 8) (.zc (.call .eH (.zc (.zv 1) (.zc (.zv 9) .zn))) .zn)))) (.zc (.not (.call .gz (.zc (.zv 8) .zn))) .zn)))
  (.zc (.ret (.zl (.bool false)))
  .zn)
  .zn)
  .zn) [9])
  (.zc (.ret (.call .aK (.zc (.zv 8) .zn)))
  .zn))))))))))))))⟩
noncomputable def aii:List aN:=[z8,Ac,yP,xO,Mt,BU,D0,zx,zT,sD,mF,mX,uP,wF,zV,BY,zI,Cq,zO,yk,qP,u7,rW,z9,y9,aab,Ku,zP,xQ,pK,pJ,uu,oW,pS,qe,oR,uH,x9,uQ,uv,sy,uK,wG,wB,r6,kK,lE,ni,xS,pF,pC,wu,ur,yH,wA,wC,zJ,qR,m7,yj,sM,B9,BO,zY,CB,wK,zN,v9,yL,yO,rY,ng,yz,Gb,DR,BS,F2,E5,EU,B4,z5,BE,KU,FF,GW,Bw,GA,Ga,GX,FT,KS,agx]
noncomputable def prog(f:Fn):aN:=aii.getD f ⟨0,0,.keep,.zc .stuck .zn⟩
end cT
namespace cT
open PySem PySem.W PySem.Calls PyProof.Rows
section
structure Loc where
 r:Nat→So
 d:Nat→So
structure PF where
 prog:Xk
 w:Tu
 K:TU
 fa:Fn→So
 ca:jn→So
 ex:So
 scr:SK
noncomputable abbrev PF.M(P:PF):Vp:=model P.prog P.w
structure Wd where
 σ:Loc
 m:ai
 s:Sl
noncomputable abbrev Wd.h(ω:Wd):S2:=ω.s.heap
noncomputable abbrev Wd.n(ω:Wd):Nat:=ω.m.length
mutual
noncomputable def VR(ω:Wd):V→Value→Prop
 |.af,_=>False
 |.none,pv=>pv=.none
 |.bool b,pv=>pv=.bool b
 |.int i,pv=> ∃t,pv=.int i t
 |.str k,pv=>k<yY∧∃t,pv=.str (SH (gE k)) t
 |.bytes b,pv=> ∃t,pv=.bytes b.toArray t
 |.bJ l,pv=> ∃a xs,pv=.ref a∧IsTup ω.h a xs∧eF ω l xs.toList
 |.range lo hi,pv=> ∃a t u v,pv=.ref a∧IsRange ω.h a lo hi 1 t u v∧Yl lo hi 1=true
 |.ref a,pv=>a<ω.n∧pv=.ref (ω.σ.r a)
noncomputable def eF(ω:Wd):List V→List Value→Prop
 |[],ps=>ps=[]
 |v::l,ps=>match ps with
  |[]=>False
  |p::r=>VR ω v p∧eF ω l r
end
def jR(o:SK):Prop:=(o.cls=.type "tuple"∧∃xs n,o.data=.seq xs n)∨(o.cls=.type "range"∧∃vs,o.data=.fields vs)
structure Le(ω ω':Wd):Prop where
 len:ω.n≤ω'.n
 loc:∀a,a<ω.n→ω'.σ.r a=ω.σ.r a
 mG:∀b o,ω.h.get? b=some o→jR o→ω'.h.get? b=some o
theorem Le.bJ{ω ω':Wd}(L:Le ω ω'){a:So}{xs:Array Value}(h:IsTup ω.h a xs):IsTup ω'.h a xs:=
 let⟨o,ho,hc,e,r⟩:=h
 ⟨o,L.mG _ _ ho (.inl ⟨hc,_,_,r⟩),hc,e,r⟩
mutual
theorem VR.bg{ω ω':Wd}(L:Le ω ω'):∀{v:V} {pv:Value},VR ω v pv→VR ω' v pv
 |.af,_,h=>h.elim
 |.none,_,h=>h
 |.bool _,_,h=>h
 |.int _,_,h=>h
 |.str _,_,h=>h
 |.bytes _,_,h=>h
 |.bJ _,_,⟨a,xs,e,t,r⟩=>⟨a,xs,e,L.bJ t,eF.bg L r⟩
 |.range _ _,_,⟨a,t,u,v,e,r,q⟩=>⟨a,t,u,v,e,L.mG _ _ r (.inr ⟨rfl,_,rfl⟩),q⟩
 |.ref _,_,⟨h,e⟩=>⟨SX h L.len,(L.loc _ h).symm▸e⟩
theorem eF.bg{ω ω':Wd}(L:Le ω ω'):∀{l:List V} {ps:List Value},eF ω l ps→eF ω' l ps
 |[],_,h=>h
 |_::_,[],h=>h
 |_::_,_::_,h=>⟨VR.bg L h.1,eF.bg L h.2⟩
end
section
variable{ω:Wd}
theorem eF.length:∀{l:List V} {ps:List Value},eF ω l ps→l.length=ps.length:= λ{l}=>by
 induction l with
 |nil=>exactλ{ps} h=>h▸rfl
 |cons v l ih=>exactλ{ps} h=>match ps,h with
  |_::_,h=>bk UE (ih h.2)
theorem eF.append{l l':List V}{ps':List Value}(b:eF ω l' ps'):∀{ps:List Value},eF ω l ps→eF ω (l++l') (ps++ps'):=by
 induction l with
 |nil=>exactλ{ps} h=>h▸b
 |cons v l ih=>exactλ{ps} h=>match ps,h with
  |_::_,h=>⟨h.1,ih h.2⟩
theorem eF.get{v:V}:∀{l:List V} {ps:List Value} {i:Nat},eF ω l ps→l[i]? =some v→∃pv,ps[i]? =some pv∧VR ω v pv:= λ{l}=>by
 induction l with
 |nil=>exactλ{ps i} h e=>nomatch e
 |cons u l ih=>exactλ{ps i} h e=>match ps,i,h,e with
  |p::_,0,h,e=>⟨p,rfl,SN e▸h.1⟩
  |_::r,i+1,h,e=>ih (ps:=r) (i:=i) h.2 e
theorem eF.DJ{l:List V}{ps:List Value}(a:eF ω l ps){i:Nat}(e:l[i]? =none):ps[i]? =none:=
 Vc (a.length▸Ym.mp e)
theorem eF.take:∀{l:List V} {ps:List Value} (k:Nat),eF ω l ps→eF ω (l.take k) (ps.take k):= λ{l}=>by
 induction l with
 |nil=>exactλ{ps} k h=>by rw[show ps=[] from h,ZI,ZI];exact rfl
 |cons u l ih=>exactλ{ps} k h=>match ps,k,h with
  |_::_,0,h=>rfl
  |_::_,k+1,h=>⟨h.1,ih k h.2⟩
theorem eF.drop:∀{l:List V} {ps:List Value} (k:Nat),eF ω l ps→eF ω (l.drop k) (ps.drop k):= λ{l}=>by
 induction l with
 |nil=>exactλ{ps} k h=>by rw[show ps=[] from h,ZJ,ZJ];exact rfl
 |cons u l ih=>exactλ{ps} k h=>match ps,k,h with
  |_::_,0,h=>h
  |_::_,k+1,h=>ih k h.2
theorem eF.set{v:V}{pv:Value}(x:VR ω v pv):∀{l:List V} {ps:List Value} (k:Nat),eF ω l ps→eF ω (l.set k v) (ps.set k pv):= λ{l}=>by
 induction l with
 |nil=>exactλ{ps} k h=>by rw[show ps=[] from h];exact rfl
 |cons u l ih=>exactλ{ps} k h=>match ps,k,h with
  |_::_,0,h=>⟨x,h.2⟩
  |_::_,k+1,h=>⟨h.1,ih k h.2⟩
end
noncomputable def KK.T:KK→Type
 |.int=>Int
 |.str=>Sv
 |.bytes=>List UInt8
instance (k:KK):DecidableEq k.T:=match k with
 |.int=>inferInstanceAs (DecidableEq Int)
 |.str=>inferInstanceAs (DecidableEq Sv)
 |.bytes=>inferInstanceAs (DecidableEq (List UInt8))
noncomputable def KK.knd(P:PF):(k:KK)→KeyKind P.prog P.w k.T
 |.int=>intKind P.prog P.w
 |.str=>strKind P.prog P.w
 |.bytes=>bytesKind P.prog P.w
noncomputable def KK.dec:(k:KK)→k.T→V→Prop
 |.int,κ,v=>v=.int κ
 |.str,κ,v=> ∃n,n<yY∧v=.str n∧κ=SH (gE n)
 |.bytes,κ,v=>v=.bytes κ
noncomputable def m6(ω:Wd){T:Type}(dec:T→V→Prop):List (V×V)→List (T×Value)→Prop
 |[],ps=>ps=[]
 |e::es,ps=>match ps with
  |[]=>False
  |p::r=>dec p.1 e.1∧VR ω e.2 p.2∧m6 ω dec es r
theorem m6.bg{ω ω':Wd}(L:Le ω ω'){T:Type}{dec:T→V→Prop}{es:List (V×V)}:∀{ps:List (T×Value)},m6 ω dec es ps→m6 ω' dec es ps:=by
 induction es with
 |nil=>exactλ{ps} h=>h
 |cons e es ih=>exactλ{ps} h=>match ps,h with
  |_::_,h=>⟨h.1,h.2.1.bg L,ih h.2.2⟩
theorem m6.length{ω:Wd}{T:Type}{dec:T→V→Prop}{es:List (V×V)}:∀{ps:List (T×Value)},m6 ω dec es ps→es.length=ps.length:=by
 induction es with
 |nil=>exactλ{ps} h=>h▸rfl
 |cons e es ih=>exactλ{ps} h=>match ps,h with
  |_::_,h=>bk UE (ih h.2.2)
def abd(P:PF)(ω:Wd)(x:So)(k:KK)(es:List (V×V)):Prop:= ∃kvs:List (k.T×Value),ω.h.DictOf (k.knd P) x kvs∧m6 ω k.dec es kvs
def nK(ω:Wd)(x:Option V)(px:Option Value):Prop:=match x with
 |none=>px=none
 |some v=> ∃pv,px=some pv∧VR ω v pv
theorem nK.bg{ω ω':Wd}(L:Le ω ω'){x:Option V}{px:Option Value}(h:nK ω x px):nK ω' x px:=match x,h with
 |none,h=>h
 |some _,⟨pv,e,r⟩=>⟨pv,e,r.bg L⟩
noncomputable def At.str(x:At):Sv:=SH x.name
noncomputable def At.ok(x:At):Bool:=S8 x nAt
noncomputable def jn.ok(x:jn):Bool:=S8 x aaM
noncomputable def Fn.ok(x:Fn):Bool:=S8 x A5
noncomputable def Gl.ok(x:Gl):Bool:=S8 x nGl
structure Iw(ω:Wd)(dx:So)(fs:List (At×V))(iL:Array Vd)(e:Nat):Prop where
 get:ω.h.get? dx=some {cls:= .type "dict",data:= .dict iL e}
 keys:Ww iL
 size:iL.size≤fs.length
 val:∀x:At,x.ok=true→nK ω (fs.lookup x) (Uh iL x.str)
noncomputable def ko(P:PF)(ω:Wd)(a:Nat):O→Prop
 |.list l=>ω.σ.d a=ω.σ.r a∧(∃xs,ω.h.PlainList (ω.σ.r a) xs∧eF ω l xs.toList)∧l.length≤ay
 |.bare l=>ω.σ.d a=ω.σ.r a∧(∃xs,ω.h.IsList (ω.σ.r a) xs∧eF ω l xs.toList)∧l.length≤ay∧ω.h.get? (ω.σ.r a)=some P.scr
 |.dict k es=>ω.σ.d a=ω.σ.r a∧abd P ω (ω.σ.r a) k es∧es.length≤ay
 |.inst c fs=>ω.h.get? (ω.σ.r a)=some (VA (P.ca c) (ω.σ.d a))∧(∃iL e,Iw ω (ω.σ.d a) fs iL e)∧fs.length≤100∧c.ok=true
 |.aM=>True
def ez(ω:Wd)(b:So):Prop:= ∃a,ω.m.live a=true∧(b=ω.σ.r a∨b=ω.σ.d a)
noncomputable abbrev Base:=So→Option SK
structure bY(P:PF)(B:Base)(ω:Wd):Prop where
 base:∀b o,B b=some o→ω.h.get? b=some o
 obj:∀a o,ω.m.get a=some o→ko P ω a o
 apart:∀a b,ω.m.live a=true→ω.m.live b=true→a≠b→ω.σ.r a≠ω.σ.r b∧ω.σ.r a≠ω.σ.d b∧ω.σ.d a≠ω.σ.d b
 fresh:∀a,ω.m.live a=true→B (ω.σ.r a)=none∧B (ω.σ.d a)=none
theorem ai.fL{m:ai}{a:Nat}{o:O}(e:m.get a=some o):a<m.length:=(Vq.mp e).1
theorem ai.iu{m:ai}{a:Nat}(h:m.live a=true):∃o,m.get a=some o∧o.live=true:=by
 unfold ai.live at h;cases e:m.get a with
 |none=>rw[e] at h;exact gg h
 |some o=>rw[e] at h;exact⟨o,rfl,h⟩
theorem ai.dg{m:ai}{a:Nat}{o:O}(e:m.get a=some o)(h:o.live=true):m.live a=true:=by unfold ai.live;rw[e];exact h
theorem ai.ef{m:ai}{a:Nat}(h:m.live a=true):a<m.length:=let⟨_,e,_⟩:=ai.iu h;ai.fL e
theorem bY.lD{P:PF}{B:Base}{ω:Wd}(R:bY P B ω){b:So}(f:ez ω b):∃o,ω.h.get? b=some o∧(o.cls=.type "list"∨o.cls=.type "dict"∨ ∃c,o.cls=.ref c)∧∀vs,o.data≠ .fields vs:=by
 obtain⟨a,ha,hb⟩:=f;obtain⟨o,ho,hl⟩:=ai.iu ha;have X:=R.obj a o ho;cases o with
 |list l=>
  obtain⟨e,⟨xs,⟨ob,h1⟩,_⟩,_⟩:=X;rw[e,or_self] at hb;exact⟨_,hb▸h1,.inl rfl,λ_ h=>by cases h⟩
 |bare l=>
  obtain⟨e,⟨xs,⟨ob,h1,h2,n,h3⟩,_⟩,_⟩:=X;rw[e,or_self] at hb;exact⟨ob,hb▸h1,.inl h2,λvs q=>nomatch h3.symm.trans q⟩
 |dict k es=>
  obtain⟨e,⟨kvs,⟨ob,_,_,h1,h2,h3,_⟩,_⟩,_⟩:=X;rw[e,or_self] at hb;exact⟨ob,hb▸h1,.inr (.inl h2.1),λvs q=>nomatch h3.symm.trans q⟩
 |inst c fs=>
  obtain⟨h1,⟨iL,e,h2⟩,_⟩:=X;rcases hb with hb|hb
  ·exact⟨_,hb▸h1,.inr (.inr ⟨_,rfl⟩),λ_ h=>by cases h⟩
  ·exact⟨_,hb▸h2.get,.inr (.inl rfl),λ_ h=>by cases h⟩
 |aM=>exact gg hl
theorem gI{o:SK}(h:o.cls=.type "list"∨o.cls=.type "dict"∨ ∃c,o.cls=.ref c):¬jR o:=by
 have key:∀T,(T=="list")=false→(T=="dict")=false→o.cls≠ .type T:= λT h1 h2 e=>by
  rcases h with h|h|⟨c,h⟩
  ·cases h.symm.trans e;exact gg (h1.symm.trans (beq_self_eq_true _))
  ·cases h.symm.trans e;exact gg (h2.symm.trans (beq_self_eq_true _))
  ·exact nomatch h.symm.trans e
 rintro (⟨e,_⟩|⟨e,_⟩)
 ·exact key _ (by decide) (by decide) e
 ·exact key _ (by decide) (by decide) e
theorem bY.live{P:PF}{B:Base}{ω:Wd}(R:bY P B ω)(b:So)(f:ez ω b):∃o,ω.h.get? b=some o:=let⟨o,e,_⟩:=R.lD f;⟨o,e⟩
theorem ko.bg{P:PF}{ω ω':Wd}{a:Nat}{o:O}(L:Le ω ω')(e1:ω'.σ.r a=ω.σ.r a)(e2:ω'.σ.d a=ω.σ.d a)
  (hf:o.live=true→∀b ob,(b=ω.σ.r a∨b=ω.σ.d a)→ω.h.get? b=some ob→ω'.h.get? b=some ob) (X:ko P ω a o):ko P ω' a o:=by
 cases o with
 |list l=>
  obtain⟨e,⟨xs,⟨ob,h1⟩,h3⟩,h4⟩:=X;exact⟨e2.trans (e.trans e1.symm),⟨xs,⟨ob,e1.symm▸hf rfl _ _ (.inl rfl) h1⟩,h3.bg L⟩,h4⟩
 |bare l=>
  obtain⟨e,⟨xs,⟨ob,h1,h2⟩,h3⟩,h4,h5⟩:=X;exact⟨e2.trans (e.trans e1.symm),⟨xs,⟨ob,e1.symm▸hf rfl _ _ (.inl rfl) h1,h2⟩,h3.bg L⟩,h4,e1.symm▸hf rfl _ _ (.inl rfl) h5⟩
 |dict k es=>
  obtain⟨e,⟨kvs,⟨ob,es',ep,h1,h2⟩,h3⟩,h4⟩:=X;exact⟨e2.trans (e.trans e1.symm),⟨kvs,⟨ob,es',ep,e1.symm▸hf rfl _ _ (.inl rfl) h1,h2⟩,h3.bg L⟩,h4⟩
 |inst c fs=>
  obtain⟨h1,⟨iL,e,h2⟩,h6⟩:=X;exact⟨by rw[e1,e2];exact hf rfl _ _ (.inl rfl) h1,⟨iL,e,by rw[e2];exact hf rfl _ _ (.inr rfl) h2.get,h2.keys,h2.size,λx hx=>(h2.val x hx).bg L⟩,h6⟩
 |aM=>exact True.intro
noncomputable def Wd.at(ω:Wd)(s:Sl):Wd:=⟨ω.σ,ω.m,s⟩
theorem bY.bg{P:PF}{B:Base}{ω:Wd}{s':Sl}(R:bY P B ω)(hk:∀b o,ω.h.get? b=some o→(ez ω b∨(B b).isSome=true∨jR o)→s'.heap.get? b=some o):bY P B (ω.at s') where
 base b o e:=hk b o (R.base b o e) (.inr (.inl (by rw[e];rfl)))
 obj a o e:=(R.obj a o e).bg (ω:=ω) (ω':=ω.at s') ⟨SQ _,λ_ _=>rfl,λb o e f=>hk b o e (.inr (.inr f))⟩ rfl rfl λhl b o hb e'=>hk b o e' (.inl ⟨a,ai.dg e hl,hb⟩)
 apart:=R.apart
 fresh:=R.fresh
theorem bY.but{P:PF}{B:Base}{ω:Wd}{s':Sl}{x:So}(R:bY P B ω)(hx:Tn x ω.h s'.heap)(hf:¬ez ω x)(hb:B x=none)(hn:∀o,ω.h.get? x=some o→¬jR o):bY P B (ω.at s'):=
 R.bg λb o e c=>hx b o (λz=>by
  subst z;rcases c with c|c|c
  ·exact hf c
  ·rw[hb] at c;exact gg c
  ·exact hn o e c) e
end
section
def Ec(o:SK):Prop:=(∀vs,o.data≠ .fields vs)∧¬jR o
def WS(W:So→Prop)(h:S2):Prop:= ∀b,W b→∃o,h.get? b=some o∧Ec o
abbrev W0:So→Prop:= λ_=>False
theorem WS.none{h:S2}:WS W0 h:= λ_ h=>h.elim
def pM(o o':SK):Prop:=o'=o∨(o.cls=.type "frame"∧∃sl,o'={o with slots:=sl})
theorem pM.cls{o o':SK}(h:pM o o'):o'.cls=o.cls:=by rcases h with rfl|⟨_,sl,rfl⟩<;>rfl
theorem pM.data{o o':SK}(h:pM o o'):o'.data=o.data:=by rcases h with rfl|⟨_,sl,rfl⟩<;>rfl
theorem pM.trans{o o' Jg:SK}(a:pM o o')(b:pM o' Jg):pM o Jg:=by
 rcases a with rfl|⟨h,sl,rfl⟩
 ·exact b
 ·rcases b with rfl|⟨_,sl',rfl⟩
  ·exact .inr ⟨h,sl,rfl⟩
  ·exact .inr ⟨h,sl',rfl⟩
theorem pM.exact{o o':SK}(h:pM o o')(c:o.cls≠ .type "frame"):o'=o:=h.elim id λx=>absurd x.1 c
theorem pM.soft{o o':SK}(h:pM o o')(s:Ec o):Ec o':=by unfold Ec jR at*;rw[h.cls,h.data];exact s
theorem iZ{S T:String}(h:(S==T)=false):VT S≠ .type T:= λe=>by injection e with e;rw[e] at h;exact gg (h.symm.trans (beq_self_eq_true T))
theorem pM.agC{o o':SK}(h:pM o o')(f:jR o):o'=o:=h.exact λe=>by
 rcases f with⟨c,_⟩|⟨c,_⟩
 ·exact iZ (by decide) (c.symm.trans e)
 ·exact iZ (by decide) (c.symm.trans e)
def P5(o:SK):Prop:= ∃es ep,o.data=.dict es ep
def lR(s s':Sl):Prop:=s'={s with heap:=s'.heap,toks:=s'.toks}
theorem lR.refl{s:Sl}:lR s s:=rfl
theorem lR.trans{s s' Fo:Sl}(a:lR s s')(b:lR s' Fo):lR s Fo:=by unfold lR at*;rw[b,a]
structure fZ(W:So→Prop)(ω ω':Wd):Prop where
 len:ω.n≤ω'.n
 live:∀a,a<ω.n→ω'.m.live a=ω.m.live a
 loc:∀a,a<ω.n→ω'.σ.r a=ω.σ.r a∧ω'.σ.d a=ω.σ.d a
 keep:∀b o,ω.h.get? b=some o→¬ez ω b→¬W b→∃o',ω'.h.get? b=some o'∧pM o o'
 soft:WS W ω.h→WS W ω'.h
 new:∀a,ω.n≤a→a<ω'.n→ω.h.get? (ω'.σ.r a)=none∧ω.h.get? (ω'.σ.d a)=none
 cls:∀b o,W b→ω.h.get? b=some o→P5 o→∃o',ω'.h.get? b=some o'∧P5 o'∧o'.cls=o.cls
 rest:lR ω.s ω'.s
section
variable{P:PF}{B:Base}{W:So→Prop}{ω ω' ω₁ ω₂ ω₃:Wd}
theorem fZ.refl:fZ W ω ω:=⟨SQ _,λ_ _=>rfl,λ_ _=>⟨rfl,rfl⟩,λ_ o e _ _=>⟨o,e,.inl rfl⟩,id,λa h1 h2=>absurd h2 (TL.mpr h1),λb o _ e d=>⟨o,e,d,rfl⟩,rfl⟩
theorem fZ.JU(X:fZ W ω ω'){b:So}{o:SK}(e:ω.h.get? b=some o)(f:ez ω' b):ez ω b:=by
 obtain⟨a,ha,hb⟩:=f;by_cases c:a<ω.n
 ·obtain⟨e1,e2⟩:=X.loc a c
  exact⟨a,(X.live a c).symm.trans ha,e1▸e2▸hb⟩
 ·obtain⟨e1,e2⟩:=X.new a (SS c) (ai.ef ha)
  rcases hb with hb|hb
  ·rw[hb,e1] at e;exact no e
  ·rw[hb,e2] at e;exact no e
theorem fZ.Oq(X:fZ W ω ω'){b:So}(f:ez ω b):ez ω' b:=by obtain⟨a,ha,hb⟩:=f;have c:=ai.ef ha;obtain⟨e1,e2⟩:=X.loc a c;exact⟨a,(X.live a c).trans ha,e1.symm▸e2.symm▸hb⟩
theorem fZ.A0(X:fZ W ω ω')(R':bY P B ω')(S:WS W ω.h){x:So}(hx:ω'.h.get? x=none):ω.h.get? x=none:=by
 cases q:ω.h.get? x with
 |none=>rfl
 |some o=>
  by_cases f:ez ω x
  ·obtain⟨o',e⟩:=R'.live x (X.Oq f);exact no (hx.symm.trans e)
  ·by_cases w:W x
   ·obtain⟨o',e,_⟩:=X.soft S x w;exact no (hx.symm.trans e)
   ·obtain⟨o',e,_⟩:=X.keep x o q f w;exact no (hx.symm.trans e)
theorem fZ.trans(X:fZ W ω₁ ω₂)(R₂:bY P B ω₂)(S:WS W ω₁.h)(Y:fZ W ω₂ ω₃):fZ W ω₁ ω₃ where
 len:=SG X.len Y.len
 live a ha:=(Y.live a (SX ha X.len)).trans (X.live a ha)
 loc a ha:=
  have p:=X.loc a ha;have q:=Y.loc a (SX ha X.len)
  ⟨q.1.trans p.1,q.2.trans p.2⟩
 keep b o e f w:=
  let⟨o',e',s⟩:=X.keep b o e f w;let⟨Jg,Oc,s'⟩:=Y.keep b o' e' (λz=>f (X.JU e z)) w
  ⟨Jg,Oc,s.trans s'⟩
 cls b o w e d:=
  let⟨o',e',d',c'⟩:=X.cls b o w e d;let⟨Jg,Oc,d'',c''⟩:=Y.cls b o' w e' d'
  ⟨Jg,Oc,d'',c''.trans c'⟩
 soft s:=Y.soft (X.soft s)
 new a h1 h2:=by
  by_cases c:a<ω₂.n
  ·rw[(Y.loc a c).1,(Y.loc a c).2];exact X.new a h1 c
  ·exact⟨X.A0 R₂ S (Y.new a (SS c) h2).1,X.A0 R₂ S (Y.new a (SS c) h2).2⟩
 rest:=X.rest.trans Y.rest
theorem fZ.p7(X:fZ W0 ω ω')(hf:∀b,W b→¬ez ω b):fZ W ω ω':=
 ⟨X.len,X.live,X.loc,λb o e f _=>X.keep b o e f id,λS b w=>let⟨o,e,q⟩:=S b w;let⟨o',e',s⟩:=X.keep b o e (hf b w) id;⟨o',e',s.soft q⟩,X.new,
  λb o w e d=>let⟨o',e',s⟩:=X.keep b o e (hf b w) id;⟨o',e',let⟨es,ep,q⟩:=d;⟨es,ep,s.data.trans q⟩,s.cls⟩,X.rest⟩
theorem fZ.le(X:fZ W ω ω')(R:bY P B ω)(S:WS W ω.h):Le ω ω':=⟨X.len,λa ha=>(X.loc a ha).1,λb o e f=>by
 obtain⟨o',e',s⟩:=X.keep b o e (λz=>by
  obtain⟨o',e',c,_⟩:=R.lD z;cases e.symm.trans e';exact gI c f) λw=>by
  obtain⟨o',e',c⟩:=S b w;cases e.symm.trans e';exact c.2 f
 rw[e',s.agC f]⟩
theorem fZ.PB(X:fZ W0 ω ω')(R:bY P B ω):Le ω ω':=X.le R .none
structure cZ(s s':Sl):Prop where
 keep:∀b o,s.heap.get? b=some o→s'.heap.get? b=some o
 rest:lR s s'
theorem cZ.le{s':Sl}(G:cZ ω.s s'):Le ω (ω.at s'):=⟨SQ _,λ_ _=>rfl,λb o e _=>G.keep b o e⟩
theorem cZ.bH{s':Sl}(G:cZ ω.s s')(R:bY P B ω):bY P B (ω.at s'):=R.bg λb o e _=>G.keep b o e
theorem cZ.ext{s':Sl}(G:cZ ω.s s'):fZ W0 ω (ω.at s'):=⟨SQ _,λ_ _=>rfl,λ_ _=>⟨rfl,rfl⟩,λb o e _ _=>⟨o,G.keep b o e,.inl rfl⟩,λ_=> .none,λa h1 h2=>absurd h2 (TL.mpr h1),λ_ _ z=>z.elim,G.rest⟩
end
noncomputable def Loc.add(σ:Loc)(n:Nat)(x dx:So):Loc:=⟨λa=>if a=n then x else σ.r a,λa=>if a=n then dx else σ.d a⟩
theorem Loc.add_r(σ:Loc)(n:Nat)(x dx:So):(σ.add n x dx).r n=x:=aG rfl
theorem Loc.tM(σ:Loc)(n:Nat)(x dx:So):(σ.add n x dx).d n=dx:=aG rfl
theorem Loc.dQ{σ:Loc}{n:Nat}{x dx:So}{a:Nat}(h:a<n):(σ.add n x dx).r a=σ.r a∧(σ.add n x dx).d a=σ.d a:=⟨aJ (T9 h),aJ (T9 h)⟩
theorem ai.length_push(m:ai)(o:O):(m.push o).length=m.length+1:=S4
theorem ai.yG(m:ai)(a:Nat)(o:O):(m.xd a o).length=m.length:=Wx
theorem ai.tu{m:ai}{o:O}{a:Nat}(h:a<m.length):(m.push o).get a=m.get a:=Ve h
theorem ai.CY{m:ai}{o:O}:(m.push o).get m.length=some o:=ZK
theorem ai.Ax{m:ai}{o:O}{a b:Nat}(h:a≠b):(m.xd a o).get b=m.get b:=VU h
theorem ai.Fd{m:ai}{o:O}{a:Nat}(h:a<m.length):(m.xd a o).get a=some o:=List.getElem?_set_self h
theorem ai.lV{m m':ai}{a b:Nat}(h:m'.get b=m.get a):m'.live b=m.live a:=by unfold ai.live;rw[h]
noncomputable def Wd.add(ω:Wd)(o:O)(x dx:So)(s:Sl):Wd:=⟨ω.σ.add ω.n x dx,ω.m.push o,s⟩
section
variable{P:PF}{B:Base}{ω ω₀:Wd}{o:O}{x dx:So}{s':Sl}
theorem Wd.tW:(ω.add o x dx s').n=ω.n+1:=ai.length_push _ _
theorem Wd.ajI{a:Nat}(h:a<ω.n):a<(ω.add o x dx s').n:=SX h (SG (TM _) (Te Wd.tW.symm))
theorem Wd.Hh{a:Nat}(h:a<(ω.add o x dx s').n)(c:¬a<ω.n):a=ω.n:=Nat.le_antisymm (VB (SX h (Te Wd.tW))) (SS c)
theorem Wd.qC{a:Nat}(h:(ω.add o x dx s').m.live a=true):(a<ω.n∧ω.m.live a=true)∨a=ω.n:=by
 by_cases c:a<ω.n
 ·exact .inl ⟨c,(ai.lV (ai.tu c)).symm.trans h⟩
 ·exact .inr (Wd.Hh (ai.ef h) c)
theorem Wd.GH(hk:∀b o,ω.h.get? b=some o→jR o→s'.heap.get? b=some o):Le ω (ω.add o x dx s'):=⟨SG (TM _) (Te Wd.tW.symm),λ_ h=>(Loc.dQ h).1,hk⟩
theorem bY.add(R:bY P B (ω.at s'))(fx:¬ez ω x)(fdx:¬ez ω dx)(bx:B x=none)(bdx:B dx=none)(X:ko P (ω.add o x dx s') ω.n o):bY P B (ω.add o x dx s') where
 base:=R.base
 obj a o' e:=by
  by_cases c:a<ω.n
  ·exact(R.obj a o' ((ai.tu c).symm.trans e)).bg (ω:=ω.at s') (Wd.GH (ω:=ω.at s') λ_ _ e _=>e) (Loc.dQ c).1 (Loc.dQ c).2 λ_ _ _ _ e=>e
  ·cases Wd.Hh (ai.fL e) c
   cases ai.CY.symm.trans e;exact X
 apart a b ha hb hab:=by
  have nf:∀{y} {a},¬ez ω y→ω.m.live a=true→ω.σ.r a≠y∧ω.σ.d a≠y:= λhy ha=>⟨λz=>hy ⟨_,ha,.inl z.symm⟩,λz=>hy ⟨_,ha,.inr z.symm⟩⟩;rcases Wd.qC ha with⟨la,ha⟩|rfl<;>rcases Wd.qC hb with⟨lb,hb⟩|rfl
  ·rw[show(ω.add o x dx s').σ.r a=_ from(Loc.dQ la).1,show(ω.add o x dx s').σ.d a=_ from(Loc.dQ la).2,show(ω.add o x dx s').σ.r b=_ from(Loc.dQ lb).1,show(ω.add o x dx s').σ.d b=_ from(Loc.dQ lb).2]
   exact R.apart a b ha hb hab
  ·rw[show(ω.add o x dx s').σ.r a=_ from(Loc.dQ la).1,show(ω.add o x dx s').σ.d a=_ from(Loc.dQ la).2,show(ω.add o x dx s').σ.r ω.n=_ from Loc.add_r ..,show(ω.add o x dx s').σ.d ω.n=_ from Loc.tM ..]
   exact⟨(nf fx ha).1,(nf fdx ha).1,(nf fdx ha).2⟩
  ·rw[show(ω.add o x dx s').σ.r b=_ from(Loc.dQ lb).1,show(ω.add o x dx s').σ.d b=_ from(Loc.dQ lb).2,show(ω.add o x dx s').σ.r ω.n=_ from Loc.add_r ..,show(ω.add o x dx s').σ.d ω.n=_ from Loc.tM ..]
   exact⟨(nf fx hb).1.symm,(nf fx hb).2.symm,(nf fdx hb).2.symm⟩
  ·exact absurd rfl hab
 fresh a ha:=by
  rcases Wd.qC ha with⟨la,ha⟩|rfl
  ·rw[show(ω.add o x dx s').σ.r a=_ from(Loc.dQ la).1,show(ω.add o x dx s').σ.d a=_ from(Loc.dQ la).2];exact R.fresh a ha
  ·rw[show(ω.add o x dx s').σ.r ω.n=_ from Loc.add_r ..,show(ω.add o x dx s').σ.d ω.n=_ from Loc.tM ..];exact⟨bx,bdx⟩
theorem fZ.add(E:fZ W0 ω₀ (ω.at s'))(hx:ω₀.h.get? x=none)(hdx:ω₀.h.get? dx=none):fZ W0 ω₀ (ω.add o x dx s') where
 len:=SG E.len (SG (TM _) (Te Wd.tW.symm))
 live a ha:=(ai.lV (ai.tu (SX ha E.len))).trans (E.live a ha)
 loc a ha:=⟨(Loc.dQ (SX ha E.len)).1.trans (E.loc a ha).1,(Loc.dQ (SX ha E.len)).2.trans (E.loc a ha).2⟩
 keep:=E.keep
 soft _:= .none
 new a h1 h2:=by
  by_cases c:a<ω.n
  ·rw[show(ω.add o x dx s').σ.r a=_ from(Loc.dQ c).1,show(ω.add o x dx s').σ.d a=_ from(Loc.dQ c).2];exact E.new a h1 c
  ·cases Wd.Hh h2 c
   rw[show(ω.add o x dx s').σ.r ω.n=_ from Loc.add_r ..,show(ω.add o x dx s').σ.d ω.n=_ from Loc.tM ..];exact⟨hx,hdx⟩
 cls _ _ z:=z.elim
 rest:=E.rest
theorem fQ{B:Base}{h:S2}(Ab:∀b o,B b=some o→h.get? b=some o){x:So}(hx:h.get? x=none):B x=none:=by
 cases q:B x with
 |none=>rfl
 |some o=>exact no (hx.symm.trans (Ab x o q))
theorem bY.j6(R:bY P B ω){y:So}(hy:ω.h.get? y=none):¬ez ω y:= λf=>let⟨_,e⟩:=R.live y f;no (hy.symm.trans e)
theorem bY.alloc(R:bY P B ω)(G:cZ ω.s s')(hx:ω.h.get? x=none)(hdx:ω.h.get? dx=none)(X:ko P (ω.add o x dx s') ω.n o):bY P B (ω.add o x dx s')∧fZ W0 ω (ω.add o x dx s'):=
 ⟨(G.bH R).add (R.j6 hx) (R.j6 hdx) (fQ R.base hx) (fQ R.base hdx) X,fZ.add G.ext hx hdx⟩
noncomputable def Wd.pD(ω:Wd)(a:Nat)(o:O)(s:Sl):Wd:=⟨ω.σ,ω.m.xd a o,s⟩
theorem Wd.Nn{a b:Nat}(ha:ω.m.live a=true)(ho:o.live=true):(ω.pD a o s').m.live b=ω.m.live b:=by
 by_cases c:a=b
 ·subst c;exact(ai.dg (ai.Fd (ai.ef ha)) ho).trans ha.symm
 ·exact ai.lV (ai.Ax c)
theorem bY.turn{a:Nat}(R:bY P B ω)(ha:ω.m.live a=true)(ho:o.live=true)(hx:x=ω.σ.r a∨x=ω.σ.d a)(hk:Tn x ω.h s'.heap)(hr:lR ω.s s')
  (X:Le ω (ω.pD a o s')→ko P (ω.pD a o s') a o):bY P B (ω.pD a o s')∧fZ W0 ω (ω.pD a o s'):=by
 have fx:ez ω x:=⟨a,ha,hx⟩;have L:Le ω (ω.pD a o s'):=⟨Te (ai.yG ..).symm,λ_ _=>rfl,λb ob e f=>hk b ob (λz=>by subst z;obtain⟨o',e',c,_⟩:=R.lD fx;cases e.symm.trans e';exact gI c f) e⟩
 have hl:∀b,(ω.pD a o s').m.live b=ω.m.live b:= λb=>Wd.Nn ha ho;refine⟨⟨λb ob e=>hk b ob (λz=> ?_) (R.base b ob e),λb o' e=> ?_,λb c hb hc=>R.apart b c ((hl b).symm.trans hb) ((hl c).symm.trans hc),λb hb=>R.fresh b ((hl b).symm.trans hb)⟩,
  ⟨L.len,λb _=>hl b,λ_ _=>⟨rfl,rfl⟩,λb ob e f _=>⟨ob,hk b ob (λz=>f (z▸fx)) e,.inl rfl⟩,λ_=> .none,λb h1 h2=>absurd (SX h2 (Te (ai.yG ..))) (TL.mpr h1),λ_ _ z=>z.elim,hr⟩⟩
 ·have:B b=none:=by rcases hx with rfl|rfl<;>subst z<;>first|exact(R.fresh a ha).1|exact(R.fresh a ha).2
  exact no (this.symm.trans e)
 ·by_cases c:a=b
  ·subst c
   cases(ai.Fd (ai.ef ha)).symm.trans e;exact X L
  ·have e':=(ai.Ax c).symm.trans e
   refine(R.obj b o' e').bg L rfl rfl λhb y ob hy ey=>hk y ob (λz=> ?_) ey;have lb:=ai.dg e' hb;obtain⟨p1,p2,p3⟩:=R.apart a b ha lb c;have q2:=(R.apart b a lb ha (Tf c)).2.1;subst z;rcases hx with hx|hx<;>rcases hy with hy|hy
   ·exact p1 (hx.symm.trans hy)
   ·exact p2 (hx.symm.trans hy)
   ·exact q2 (hy.symm.trans hx)
   ·exact p3 (hx.symm.trans hy)
end
end
end cT
namespace cT
section
inductive An where
 |b (b:Bool)
 |v (v:V)
 |l (l:List V)
 |d (es:List (V×V))
 |g
 |r (v:V) (gs:List (Nat×O))
 |rl (l:List V) (gs:List (Nat×O))
 |o (v:V) (m:ai)
 |c (v:V) (m:ai)
 |f (fl:Fl) (m:ai)
 |x (m:ai)
 |q (Q:V→ai→Prop)
 |qf (Q:Fl→ai→Prop)
noncomputable abbrev Sc:=List (Nat×An)
noncomputable def An.qi:An→Option Bool|.b y=>some y|_=>none
noncomputable def An.qo:An→Option V|.v y=>some y|_=>none
noncomputable def An.toL:An→Option (List V)|.l y=>some y|_=>none
noncomputable def An.toD:An→Option (List (V×V))|.d y=>some y|_=>none
def hd(sc:Sc)(zE:Sc→Prop)(k:An→Sc→Prop):Prop:=match sc with
 |[]=>zE []
 |p::fz=>match p.1 with
  |0=>k p.2 fz
  |n+1=>zE ((n,p.2)::fz)
section
variable{α:Type}
def gp(x:Option α)(k:α→Sc→Prop)(sc:Sc):Prop:=match x with
 |some v=>k v sc
 |none=>False
def ask(p:An→Option α)(x:Option α)(sc:Sc)(k:α→Sc→Prop):Prop:=hd sc (gp x k) λa fz=>match p a with
 |some v=>x=some v∧k v fz
 |none=>False
def guard(p:Prop)[Decidable p](sc:Sc)(k:Sc→Prop):Prop:=hd sc (λsc=>if p then k sc else False) λ_ fz=>p∧k fz
def u9(c:An→Option α)(p:Prop)[Decidable p](x:α)(sc:Sc)(k:α→Sc→Prop):Prop:=hd sc (λsc=>if p then k x sc else False) λa fz=>match c a with
 |some y=>p∧x=y∧k y fz
 |none=>p∧k x fz
end
def b7(gs:List (Nat×O))(m:ai):Prop:=gs.map (·.2)=gs.map λp=>(m.get p.1).getD .aM
noncomputable abbrev KV:=V→Sc→ai→Prop
noncomputable abbrev KX:=ai→Prop
noncomputable abbrev KF:=Fl→Sc→ai→Prop
noncomputable abbrev tU(α:Type):=(α→ai→Prop)→(ai→Prop)→Prop
abbrev kOk{α:Type}(a:α)(m:ai):α→ai→Prop:= λa' m'=>a'=a∧m'=m
noncomputable abbrev fy:KX:= λ_=>False
def aq{α:Type}(D:tU α)(a:α)(m:ai):Prop:=D (kOk a m) fy
def E6(D:ai→tU V)(m:ai)(sc:Sc)(zE:Sc→Prop)(k:KV)(kx:KX):Prop:=hd sc zE λa fz=>match a with
 |.c v m'=>aq (D m) v m'∧k v fz m'
 |.x m'=>D m (λ_ _=>False) (λm₂=>m₂=m')∧kx m'
 |.r v gs=>(∀M,b7 gs M→aq (D M) v M)∧b7 gs m∧k v fz m
 |.rl l gs=>(∀M,b7 gs M→aq (D M) (.ref M.next) (M.push (.list l)))∧b7 gs m∧k (.ref m.next) fz (m.push (.list l))
 |.q Q=>D m Q fy∧∀v m',Q v m'→∃sc,k v sc m'
 |_=>False
def afZ{α:Type}(x:uf α)(k:α→Sc→ai→Prop)(sc:Sc):Prop:=match x with
 |some p=>k p.1 sc p.2
 |none=>False
def uA(x:ai→uf V)(m:ai)(sc:Sc)(k:KV):Prop:=hd sc (afZ (x m) k) λa fz=>match a with
 |.o v m'=>x m=.ok v m'∧k v fz m'
 |.r v gs=>(∀M,b7 gs M→x M=.ok v M)∧b7 gs m∧k v fz m
 |.rl l gs=>(∀M,b7 gs M→x M=.ok (.ref M.next) (M.push (.list l)))∧b7 gs m∧k (.ref m.next) fz (m.push (.list l))
 |_=>False
def Mx(D:tU Fl)(sc:Sc)(zE:Sc→Prop)(k:KF)(kx:KX):Prop:=hd sc zE λa fz=>match a with
 |.f v m=>aq D v m∧k v fz m
 |.x m'=>D (λ_ _=>False) (λm₂=>m₂=m')∧kx m'
 |.qf Q=>D Q fy∧∀v m',Q v m'→∃sc,k v sc m'
 |_=>False
def Dz{α:Type}(u:V→α)(x:uf α)(sc:Sc)(zE:Sc→Prop)(k:α→Sc→ai→Prop):Prop:=match sc with
 |[]=>zE []
 |p::fz=>match p.1 with
  |0=>match p.2 with
   |.o v m=>x=.ok (u v) m∧k (u v) fz m
   |a=>zE ((0,a)::fz)
  |n+1=>zE ((n+1,p.2)::fz)
noncomputable def IM{α β:Type}:List (α×β)→(List (α×β)→Prop)→Prop
 |[],k=>k []
 |p::l,k=>IM l λl=>k ((p.1,p.2)::l)
def nR(b:Bool)(p:Prop):Prop:=match b with
 |true=>p
 |false=>False
def two(b:Bool)(p q:Prop):Prop:=match b with
 |true=>p
 |false=>q
def nQ(l:List V)(m:ai)(sc:Sc)(k:KV):Prop:=u9 An.toL (l.length<ay) l sc λl sc=>k (.ref m.next) sc (m.push (.list l))
def Qc(o v:V)(m:ai)(k:KV)(sc:Sc):Prop:=gp o.iE (λa sc=>gp (m.o8 a) (λl sc=>u9 An.toL (l.length<ay) (l++[v]) sc λl sc=>k .none sc (m.xd a (.list l))) sc) sc
def Jd(o v:V)(m:ai)(sc:Sc)(k:KV):Prop:=Dz id (za o v m) sc (Qc o v m k) k
noncomputable def tN(a:Nat)(i v:V)(m:ai)(k:Sc→ai→Prop)(sc:Sc):O→Prop
 |.list l=>gp i.fk (λi sc=>u9 An.toL (0≤i∧i.toNat<l.length) (l.set i.toNat v) sc λl sc=>k sc (m.xd a (.list l))) sc
 |.dict kk es=>match kk with
  |.str=>guard (kindOf i=some .str∧es.length<ay) sc λsc=>IM (bR i v es) λes=>k sc (m.xd a (.dict .str es))
  |kk=>u9 An.toD (kindOf i=some kk∧es.length<ay) (bR i v es) sc λes sc=>k sc (m.xd a (.dict kk es))
 |_=>False
def PT(o i v:V)(m:ai)(k:Sc→ai→Prop)(sc:Sc):Prop:=gp o.iE (λa sc=>gp (m.get a) (λob sc=>tN a i v m k sc ob) sc) sc
def gv(o i v:V)(m:ai)(sc:Sc)(k:Sc→ai→Prop):Prop:=Dz (λ_=>()) (setItem o i v m) sc (PT o i v m k) λ_ sc m=>k sc m
def agD(op:Op)(a b:V)(m:ai)(k:KV)(sc:Sc):Prop:=match a with
 |.ref x=>gp (m.o8 x) (λl sc=>gp b.iE (λy sc=>gp (m.o8 y) (λr sc=>nR op.C2 (u9 An.toL (l.length+r.length<ay) (l++r) sc λl sc=>k (.ref m.next) sc (m.push (.list l)))) sc) sc) sc
 |.int x=>gp b.fk (λy sc=>ask An.qo ((op.nC x y).map .int) sc λv sc=>k v sc m) sc
 |.bytes p=>ask An.qo (op.LF p b) sc λv sc=>k v sc m
 |_=>False
def abX(op:Op)(a b:V)(m:ai)(sc:Sc)(k:KV):Prop:=Dz id (I4 op a b m) sc (agD op a b m k) k
noncomputable def Hz(v:V)(c:jn)(x:At)(m:ai):Bool:=isSome v.iE λa=>isSome (m.D3 a) λp=>SA p.1 c&&(p.2.lookup x).isNone
noncomputable def NJ(x:V)(m:ai):Option Bool:=(uC x m).map List.isEmpty
def L8(x:At)(o v:V)(m:ai)(k:Sc→ai→Prop)(sc:Sc):Prop:=gp o.iE (λa sc=>gp (m.D3 a) (λp sc=>nR (S8 p.2.length 100&& !p.1.pZ x) (IM (iU x v p.2) λfs=>k sc (m.xd a (.inst p.1 fs)))) sc) sc
def gx(x:At)(o v:V)(m:ai)(sc:Sc)(k:Sc→ai→Prop):Prop:=Dz (λ_=>()) (setAttr x o v m) sc (L8 x o v m k) λ_ sc m=>k sc m
def two?(l:List V)(f:Prop)(g:V→Prop):Prop:=match l with
 |[]=>f
 |b::_=>g b
def biB(f:Bi)(l:List V)(m:ai)(sc:Sc)(k:KV):Prop:=two? l False λv=>match f with
 |.len=>ask An.qo ((aa5 v m).map λn:Nat=>V.int (n:Int)) sc λr sc=>k r sc m
 |.sorted=>uA (eT v) m sc k
 |.range=>two? l.tail (ask An.qo (qG (.int 0) v) sc λr sc=>k r sc m) λb=>ask An.qo (qG v b) sc λr sc=>k r sc m
 |.max=>two? l.tail False λb=>ask An.qo (ahZ v b) sc λr sc=>k r sc m
 |.bytes=>ask An.qo (wW v m) sc λr sc=>k r sc m
 |.tuple=>ask An.qo (IX v m) sc λr sc=>k r sc m
 |.all=>ask An.qo (abA v m) sc λr sc=>k r sc m
noncomputable def ae8(f:Me)(v:V)(m:ai):Bool:=match f with
 |.append=>Rl v m
 |_=>aaa v m
def meB(f:Me)(o:V)(l:List V)(m:ai)(sc:Sc)(k:KV):Prop:=two? l False λa=>match f with
 |.append=>Jd o a m sc k
 |.get=>two? l.tail False λb=>ask An.qo (afX o a b m) sc λr sc=>k r sc m
 |.pop=>uA (Ri o a) m sc k
structure Cl where
 sp:Fn→List V→ai→tU V
 run:Fn→List V→Sc→ai→KV→KX→Prop
 cp:nO→Es→E→List V→V→ai→tU V
 lp:nO→Ss→List Nat→List V→V→ai→tU Fl
 wh:E→Ss→List Nat→List V→ai→tU Fl
noncomputable def DZ(bnd:V→ai→Option (List V))(LS:ai→Prop)(dec:∀m,Decidable (LS m))(test:List V→Sc→ai→(Bool→Sc→ai→Prop)→Prop)(elt:List V→Sc→ai→KV→Prop)(k:List V→Sc→ai→Prop):List V→List V→Sc→ai→Prop
 |[],ys,sc,m=>k ys sc m
 |v::vs,ys,sc,m=>gp (bnd v m) (λenv sc=>test env sc m λb sc m₁=>two b
   (elt env sc m₁ λx sc m₂=> @guard (LS m₂) (dec m₂) sc λsc=>DZ bnd LS dec test elt k vs (ys++[x]) sc m₂)
   (@guard (LS m₁) (dec m₁) sc λsc=>DZ bnd LS dec test elt k vs ys sc m₁)) sc
def vq(l:List V)(k:Option Int→Prop):Prop:=match l with
 |[]=>k none
 |v::_=>match v with
  |.int i=>k (some i)
  |_=>False
section
variable(C:Cl)
mutual
noncomputable def rE(env:List V):E→Sc→ai→KV→KX→Prop
 |.stuck,_,_,_,_=>False
 |.zv i,sc,m,k,_=>gp (fj env i) (λv sc=>k v sc m) sc
 |.zl v,sc,m,k,_=>k v sc m
 |.dI g,sc,m,k,_=>k (.int g.val) sc m
 |.cW op a b,sc,m,k,kx=>rE env a sc m (λx sc m=>rE env b sc m (λy sc m=>abX op x y m sc k) kx) kx
 |.cmp op a b,sc,m,k,kx=>rE env a sc m (λx sc m=>rE env b sc m (λy sc m=>ask An.qi (op.run x y m) sc λr sc=>k (.bool r) sc m) kx) kx
 |.not a,sc,m,k,kx=>rE env a sc m (λx sc m=>ask An.qi (truthy x m) sc λr sc=>k (.bool (!r)) sc m) kx
 |.neg a,sc,m,k,kx=>rE env a sc m (λx sc m=>gp x.fk (λi sc=>k (.int (-i)) sc m) sc) kx
 |.and es,sc,m,k,kx=>adx env es sc m k kx
 |.or es,sc,m,k,kx=>rOr env es sc m k kx
 |.ite c t e,sc,m,k,kx=>rE env c sc m (λx sc m=>ask An.qi (truthy x m) sc λr sc=>two r (rE env t sc m k kx) (rE env e sc m k kx)) kx
 |.nq a,sc,m,k,kx=>rE env a sc m (λx sc m=>k (.bool (!x.isNone)) sc m) kx
 |.vR a,sc,m,k,kx=>rE env a sc m (λx sc m=>ask An.qi (NJ x m) sc λb sc=>k (.bool b) sc m) kx
 |.attr x o,sc,m,k,kx=>rE env o sc m (λv sc m=>ask An.qo (uY x v m) sc λr sc=>k r sc m) kx
 |.idx o i,sc,m,k,kx=>rE env o sc m (λv sc m=>rE env i sc m (λj sc m=>ask An.qo (item v j m) sc λr sc=>k r sc m) kx) kx
 |.slice o lo hi,sc,m,k,kx=>rE env o sc m (λv sc m=>Hr env lo sc m (λa sc m=>Hr env hi sc m (λb sc m=>vq a λa=>vq b λb=>uA (iw v a b) m sc k) kx) kx) kx
 |.list es,sc,m,k,kx=>Hr env es sc m (λl sc m=>nQ l m sc k) kx
 |.bJ es,sc,m,k,kx=>Hr env es sc m (λl sc m=>k (.bJ l) sc m) kx
 |.pQ kk,sc,m,k,_=>k (.ref m.next) sc (m.push (.dict kk []))
 |.dict ks vs,sc,m,k,kx=>Hr env vs sc m (λvs sc m=>uA (newDict ks vs) m sc k) kx
 |.comp t it cs el,sc,m,k,kx=>rE env it sc m (λv sc m=>E6 (C.cp t cs el env v) m sc (λsc=>ask An.toL (aO v m) sc λl sc=>guard (l.length<ay) sc λsc=>
   DZ (λx m=>nA t x env m) (λm'=>aO v m'=some l) (λ_=>inferInstance) (λenv sc m k=>rT env cs sc m k) (λenv sc m k=>rE env el sc m k λ_=>False) (λxs sc m=>nQ xs m sc k) l [] sc m) k λ_=>False) kx
 |.bi f args,sc,m,k,kx=>Hr env args sc m (λl sc m=>biB f l m sc k) kx
 |.me f o args,sc,m,k,kx=>rE env o sc m (λx sc m=>ask An.qi (some (ae8 f x m)) sc λb sc=>nR b (Hr env args sc m (λl sc m=>meB f x l m sc k) kx)) kx
 |.new c args,sc,m,k,kx=>Hr env args sc m (λl sc m=>E6 (C.sp c.CQ (.ref m.next::l)) (m.push (.inst c [])) sc
  (λsc=>C.run c.CQ (.ref m.next::l) sc (m.push (.inst c [])) (λr sc m'=>nR r.isNone (k (.ref m.next) sc m')) kx) (λr sc m'=>nR r.isNone (k (.ref m.next) sc m')) kx) kx
 |.call f args,sc,m,k,kx=>Hr env args sc m (λl sc m=>E6 (C.sp f l) m sc (λsc=>C.run f l sc m k kx) k kx) kx
 |.aU f c x o args,sc,m,k,kx=>rE env o sc m (λv sc m=>ask An.qi (some (Hz v c x m)) sc λb sc=>nR b (Hr env args sc m (λl sc m=>E6 (C.sp f (v::l)) m sc (λsc=>C.run f (v::l) sc m k kx) k kx) kx)) kx
noncomputable def adx(env:List V):Es→Sc→ai→KV→KX→Prop
 |.zn,_,_,_,_=>False
 |.zc e es,sc,m,k,kx=>match es with
  |.zn=>rE env e sc m k kx
  |.zc _ _=>rE env e sc m (λx sc m=>ask An.qi (truthy x m) sc λr sc=>two r (adx env es sc m k kx) (k x sc m)) kx
noncomputable def rOr(env:List V):Es→Sc→ai→KV→KX→Prop
 |.zn,_,_,_,_=>False
 |.zc e es,sc,m,k,kx=>match es with
  |.zn=>rE env e sc m k kx
  |.zc _ _=>rE env e sc m (λx sc m=>ask An.qi (truthy x m) sc λr sc=>two r (k x sc m) (rOr env es sc m k kx)) kx
noncomputable def Hr(env:List V):Es→Sc→ai→(List V→Sc→ai→Prop)→KX→Prop
 |.zn,sc,m,k,_=>k [] sc m
 |.zc e es,sc,m,k,kx=>rE env e sc m (λv sc m=>Hr env es sc m (λvs sc m=>k (v::vs) sc m) kx) kx
noncomputable def rT(env:List V):Es→Sc→ai→(Bool→Sc→ai→Prop)→Prop
 |.zn,sc,m,k=>k true sc m
 |.zc e _,sc,m,k=>rE env e sc m (λv sc m=>ask An.qi (truthy v m) sc λb sc=>k b sc m) λ_=>False
end
noncomputable def Od(bnd:V→List V→ai→Option (List V))(LS:ai→Prop)(dec:∀m,Decidable (LS m))(body:List V→Sc→ai→KF→Prop)(bf:List Nat)(k:KF):List V→List V→Sc→ai→Prop
 |[],env,sc,m=>k (.next (cC bf env)) sc m
 |v::vs,env,sc,m=>gp (bnd v env m) (λab8 sc=>body ab8 sc m λf sc m₁=>match f with
   |.ret x=>k (.ret x) sc m₁
   |.next e=> @guard (LS m₁) (dec m₁) sc λsc=>Od bnd LS dec body bf k vs (cC bf e) sc m₁
   |.cont e=> @guard (LS m₁) (dec m₁) sc λsc=>Od bnd LS dec body bf k vs (cC bf e) sc m₁) sc
mutual
noncomputable def rS:S→List V→Sc→ai→KF→KX→Prop
 |.stuck,_,_,_,_,_=>False
 |.P8,env,sc,m,k,_=>k (.next env) sc m
 |.cont,env,sc,m,k,_=>k (.cont env) sc m
 |.tV,_,sc,m,k,_=>k (.ret .none) sc m
 |.kh,_,_,m,_,kx=>kx m
 |.ret e,env,sc,m,k,kx=>rE C env e sc m (λv sc m=>k (.ret v) sc m) kx
 |.expr e,env,sc,m,k,kx=>rE C env e sc m (λ_ sc m=>k (.next env) sc m) kx
 |.assign i e,env,sc,m,k,kx=>rE C env e sc m (λv sc m=>k (.next (env.set i v)) sc m) kx
 |.unpack ks e,env,sc,m,k,kx=>rE C env e sc m (λv sc m=>gp (nA (.iJ ks) v env m) (λenv sc=>k (.next env) sc m) sc) kx
 |.setAttr o x e,env,sc,m,k,kx=>rE C env e sc m (λv sc m=>rE C env o sc m (λp sc m=>gx x p v m sc λsc m=>k (.next env) sc m) kx) kx
 |.cG o i e,env,sc,m,k,kx=>rE C env e sc m (λv sc m=>rE C env o sc m (λp sc m=>rE C env i sc m (λj sc m=>gv p j v m sc λsc m=>k (.next env) sc m) kx) kx) kx
 |.Lq i op e,env,sc,m,k,kx=>gp (fj env i) (λold sc=>rE C env e sc m (λv sc m=>ask An.qo (op.rJ old v) sc λnew sc=>k (.next (env.set i new)) sc m) kx) sc
 |.qx o x op e,env,sc,m,k,kx=>rE C env o sc m (λp sc m=>ask An.qo (uY x p m) sc λold sc=>rE C env e sc m (λv sc m=>ask An.qo (op.rJ old v) sc λnew sc=>
  gx x p new m sc λsc m=>k (.next env) sc m) kx) kx
 |.rD o i op e,env,sc,m,k,kx=>rE C env o sc m (λp sc m=>rE C env i sc m (λj sc m=>ask An.qo (item p j m) sc λold sc=>rE C env e sc m (λv sc m=>ask An.qo (op.rJ old v) sc λnew sc=>
  gv p j new m sc λsc m=>k (.next env) sc m) kx) kx) kx
 |.cO c t e,env,sc,m,k,kx=>rE C env c sc m (λv sc m=>ask An.qi (truthy v m) sc λb sc=>two b (rX t env sc m k kx) (rX e env sc m k kx)) kx
 |.iH t it body bf,env,sc,m,k,kx=>rE C env it sc m (λv sc m=>Mx (C.lp t body bf env v m) sc (λsc=>ask An.toL (aO v m) sc λl sc=>
   Od (λx env m=>nA t x env m) (λm'=>aO v m'=some l) (λ_=>inferInstance) (λenv sc m k=>rX body env sc m k λ_=>False) bf k l env sc m) k λ_=>False) kx
 |.rR c body bf,env,sc,m,k,_=>Mx (C.wh c body bf env m) sc (λ_=>False) k λ_=>False
 |.JX i e h,env,sc,m,k,_=>rE C env e sc m (λv sc m=>k (.next (env.set i v)) sc m) λm'=> ∃sc,rX h env sc m' k λ_=>False
noncomputable def rX:Ss→List V→Sc→ai→KF→KX→Prop
 |.zn,env,sc,m,k,_=>k (.next env) sc m
 |.zc s ss,env,sc,m,k,kx=>rS s env sc m (λf sc m=>match f with
  |.next env=>rX ss env sc m k kx
  |.cont env=>k (.cont env) sc m
  |.ret v=>k (.ret v) sc m) kx
end
end
noncomputable def FA(gc:Gc)(m:ai)(k:KV):KF:= λfl sc m'=>match gc with
 |.keep=>k (C8 fl) sc m'
 |.bS=>guard ((C8 fl).pure=true∧m'.take m.length=m) sc λsc=>k (C8 fl) sc m
 |.fresh=>gp (C8 fl).iE (λa sc=>gp (m'.o8 a) (λl sc=>guard (V.jm l=true∧m.length≤a∧m'.take m.length=m) sc λsc=>k (.ref m.next) sc (m.push (.list l))) sc) sc
section
variable{α:Type}
theorem A4{sc:Sc}{zE:Sc→Prop}{k:An→Sc→Prop}(h:hd sc zE k):(∃sc,zE sc)∨ ∃a sc,k a sc:=match sc,h with
 |[],h=> .inl ⟨_,h⟩
 |(0,a)::sc,h=> .inr ⟨a,sc,h⟩
 |(n+1,a)::sc,h=> .inl ⟨_,h⟩
theorem eK{x:Option α}{k:α→Sc→Prop}{sc:Sc}(h:gp x k sc):∃v sc,x=some v∧k v sc:=match x,h with
 |some v,h=>⟨v,sc,rfl,h⟩
theorem uL{p:An→Option α}{x:Option α}{sc:Sc}{k:α→Sc→Prop}(h:ask p x sc k):∃v sc,x=some v∧k v sc:=by
 rcases A4 h with⟨sc,h⟩|⟨a,sc,h⟩
 ·exact eK h
 ·cases e:p a with
  |none=>rw[e] at h;exact h.elim
  |some v=>rw[e] at h;exact⟨v,sc,h⟩
theorem Ig{p:Prop}[d:Decidable p]{q:Prop}(h:if p then q else False):p∧q:=match d,h with
 |.isTrue hp,h=>⟨hp,h⟩
theorem lP{p:Prop}[Decidable p]{sc:Sc}{k:Sc→Prop}(h:guard p sc k):p∧∃sc,k sc:=by
 rcases A4 h with⟨sc,h⟩|⟨a,sc,h⟩
 ·exact⟨(Ig h).1,_,(Ig h).2⟩
 ·exact⟨h.1,_,h.2⟩
theorem k8{c:An→Option α}{p:Prop}[Decidable p]{x:α}{sc:Sc}{k:α→Sc→Prop}(h:u9 c p x sc k):p∧∃sc,k x sc:=by
 rcases A4 h with⟨sc,h⟩|⟨a,sc,h⟩
 ·exact⟨(Ig h).1,_,(Ig h).2⟩
 ·cases e:c a with
  |none=>rw[e] at h;exact⟨h.1,sc,h.2⟩
  |some y=>rw[e] at h;obtain⟨hp,rfl,h⟩:=h;exact⟨hp,sc,h⟩
theorem qq{b:Bool}{p:Prop}(h:nR b p):b=true∧p:=match b,h with
 |true,h=>⟨rfl,h⟩
theorem ET{α β:Type}{l:List (α×β)}:∀{k:List (α×β)→Prop},IM l k→k l:=by
 induction l with
 |nil=>exactλ{k} h=>h
 |cons p l ih=>exactλ{k} h=>ih (k:= λl=>k ((p.1,p.2)::l)) h
theorem yw{b:Bool}{p:Sc→Prop}{sc:Sc}(h:ask An.qi (some b) sc λb sc=>nR b (p sc)):b=true∧∃sc,p sc:=by obtain⟨c,sc,e,h⟩:=uL h;cases e;exact⟨(qq h).1,sc,(qq h).2⟩
def B3{α:Type}(x:uf α)(k:α→Sc→ai→Prop):Prop:= ∃a m sc,x=.ok a m∧k a sc m
theorem sP{u:V→α}{x:uf α}{sc:Sc}{zE:Sc→Prop}{k:α→Sc→ai→Prop}(h:Dz u x sc zE k)(hn:∀sc,zE sc→B3 x k):B3 x k:=match sc,h with
 |[],h=>hn _ h
 |(n+1,_)::_,h=>hn _ h
 |(0,.o v m)::sc,h=>⟨_,m,sc,h⟩
 |(0,.b _)::_,h=>hn _ h
 |(0,.v _)::_,h=>hn _ h
 |(0,.l _)::_,h=>hn _ h
 |(0,.d _)::_,h=>hn _ h
 |(0,.g)::_,h=>hn _ h
 |(0,.r _ _)::_,h=>hn _ h
 |(0,.rl _ _)::_,h=>hn _ h
 |(0,.f _ _)::_,h=>hn _ h
 |(0,.c _ _)::_,h=>hn _ h
 |(0,.x _)::_,h=>hn _ h
 |(0,.q _)::_,h=>hn _ h
 |(0,.qf _)::_,h=>hn _ h
theorem xw{x:ai→uf V}{m:ai}{sc:Sc}{k:KV}(h:uA x m sc k):B3 (x m) k:=by
 rcases A4 h with⟨sc,h⟩|⟨a,sc,h⟩
 ·unfold afZ at h
  cases e:x m with
  |none=>rw[e] at h;exact h.elim
  |some p=>rw[e] at h;exact⟨p.1,p.2,sc,rfl,h⟩
 ·cases a<;>first|exact h.elim|exact⟨_,_,sc,h⟩|exact⟨_,_,sc,h.1 _ h.2.1,h.2.2⟩
theorem Je{D:ai→tU V}{m:ai}{sc:Sc}{zE:Sc→Prop}{k:KV}{kx:KX}(h:E6 D m sc zE k kx):(∃sc,zE sc)∨ ∃Q X,D m Q X∧(∀v m',Q v m'→∃sc,k v sc m')∧∀m',X m'→kx m':=by
 rcases A4 h with h|⟨a,sc,h⟩
 ·exact .inl h
 ·refine .inr ?_
  have go:∀{v m'},aq (D m) v m'→k v sc m'→∃Q X,D m Q X∧(∀v m',Q v m'→∃sc,k v sc m')∧∀m',X m'→kx m':= λd h=>⟨_,_,d,λv m' e=>⟨sc,e.1▸e.2▸h⟩,λ_ e=>e.elim⟩;cases a with
  |c v m'=>exact go h.1 h.2
  |x m'=>exact⟨_,_,h.1,λv m' e=>e.elim,λm₂ e=>e▸h.2⟩
  |r v gs=>exact go (h.1 _ h.2.1) h.2.2
  |rl l gs=>exact go (h.1 _ h.2.1) h.2.2
  |q Q=>exact⟨_,_,h.1,h.2,λ_ e=>e.elim⟩
  |_=>exact h.elim
theorem IP{D:tU Fl}{sc:Sc}{zE:Sc→Prop}{k:KF}{kx:KX}(h:Mx D sc zE k kx):(∃sc,zE sc)∨ ∃Q X,D Q X∧(∀v m',Q v m'→∃sc,k v sc m')∧∀m',X m'→kx m':=by
 rcases A4 h with h|⟨a,sc,h⟩
 ·exact .inl h
 ·refine .inr ?_
  cases a with
  |f v m'=>exact⟨_,_,h.1,λv m' e=>⟨sc,e.1▸e.2▸h.2⟩,λ_ e=>e.elim⟩
  |x m'=>exact⟨_,_,h.1,λv m' e=>e.elim,λm₂ e=>e▸h.2⟩
  |qf Q=>exact⟨_,_,h.1,h.2,λ_ e=>e.elim⟩
  |_=>exact h.elim
theorem vA{l:List V}{m:ai}{sc:Sc}{k:KV}(h:nQ l m sc k):B3 (newList l m) k:=by obtain⟨c,sc,h⟩:=k8 h;exact⟨_,_,sc,aG c,h⟩
theorem binds{α β:Type}{x:Option α}{a:α}(e:x=some a)(f:α→Option β):x.bind f=f a:=by rw[e];rfl
theorem G3{o v:V}{m:ai}{sc:Sc}{k:KV}(h:Jd o v m sc k):B3 (za o v m) k:=sP h λsc h=>by obtain⟨a,sc,e,h⟩:=eK h;obtain⟨l,sc,e',h⟩:=eK h;obtain⟨c,sc,h⟩:=k8 h;exact⟨_,_,sc,(binds e _).trans ((binds e' _).trans (aG c)),h⟩
theorem vd{o i v:V}{m:ai}{sc:Sc}{k:Sc→ai→Prop}(h:gv o i v m sc k):B3 (setItem o i v m) λ_ sc m=>k sc m:=sP h λsc h=>by
 obtain⟨a,sc,e,h⟩:=eK h;obtain⟨ob,sc,e',h⟩:=eK h;have key:∀ob',ob.setItem i v=some ob'→setItem o i v m=.ok () (m.xd a ob'):= λob' q=>(binds e _).trans ((binds e' _).trans (bk (Ua _) q));cases ob with
 |list l=>
  delta tN at h
  obtain⟨j,sc,e2,h⟩:=eK h;obtain⟨c,sc,h⟩:=k8 h;exact⟨_,_,sc,key _ ((binds e2 _).trans (aG c)),h⟩
 |dict kk es=>
  cases kk with
  |str=>obtain⟨c,sc,h⟩:=lP h;exact⟨_,_,sc,key _ (aG c),ET (k:= λes=>k sc (m.xd a (.dict .str es))) h⟩
  |int=>delta tN at h;obtain⟨c,sc,h⟩:=k8 h;exact⟨_,_,sc,key _ (aG c),h⟩
  |bytes=>delta tN at h;obtain⟨c,sc,h⟩:=k8 h;exact⟨_,_,sc,key _ (aG c),h⟩
 |_=>exact h.elim
theorem vf{x:At}{o v:V}{m:ai}{sc:Sc}{k:Sc→ai→Prop}(h:gx x o v m sc k):B3 (setAttr x o v m) λ_ sc m=>k sc m:=sP h λsc h=>by obtain⟨a,sc,e,h⟩:=eK h;obtain⟨p,sc,e',h⟩:=eK h;obtain⟨q,h⟩:=qq h;obtain⟨q1,q2⟩:=Sn.mp q;exact⟨_,_,sc,(binds e _).trans ((binds e' _).trans (aG ⟨TF q1,by rw[←ZL (jn.pZ _ _),q2];rfl⟩)),ET (k:= λfs=>k sc (m.xd a (.inst p.1 fs))) h⟩
theorem Qn{op:Op}{a b:V}{m:ai}{sc:Sc}{k:KV}(h:abX op a b m sc k):B3 (I4 op a b m) k:=sP h λsc h=>by
 delta agD at h
 cases a with
 |ref x=>
  obtain⟨l,sc,e,h⟩:=eK h;obtain⟨y,sc,e1,h⟩:=eK h;obtain⟨r,sc,e2,h⟩:=eK h;obtain⟨q,h⟩:=qq h;obtain⟨c,sc,h⟩:=k8 h;exact⟨_,_,sc,(binds e _).trans ((binds e1 _).trans ((binds e2 _).trans (aG ⟨q,c⟩))),h⟩
 |int x=>
  obtain⟨y,sc,e,h⟩:=eK h;obtain⟨v,sc,e1,h⟩:=uL h;have q:(b.fk.bind λy=>(op.nC x y).map V.int)=some v:=(binds e _).trans e1;exact⟨v,m,sc,bk (Ua λv=>(v,m)) q,h⟩
 |bytes p=>
  obtain⟨v,sc,e1,h⟩:=uL h;exact⟨v,m,sc,bk (Ua λv=>(v,m)) e1,h⟩
 |_=>exact h.elim
end
end
end cT
namespace cT
open PySem PySem.W PySem.Calls PyProof.Rows
section
structure Bx where
 P:PF
 B:Base
 l:List SY
 A:S3
structure Cx where
 b:Bx
 env:SY
 nm:List (Sv×Nat)
 q:Bool
structure aX(c:Cx)(aa:List V)(ω:Wd):Prop where
 ns:∃mm,ω.h.Ns c.env.locals mm∧∀x k v,c.env.kindOf x=some .local→c.nm.lookup x=some k→fj aa k=some v→∃pv,mm x=some pv∧VR ω v pv
 cell:∀x,(c.env.kindOf x=some .cell∨c.env.kindOf x=some .free)→∃a ov,c.env.cells.lookup x=some a∧ω.h.IsCell a ov∧
  ∀k v,c.nm.lookup x=some k→fj aa k=some v→∃pv,ov=some pv∧VR ω v pv
 off:¬ez ω c.env.locals∧c.b.B c.env.locals=none
 dP:∀x a,c.env.cells.lookup x=some a→¬ez ω a∧c.b.B a=none∧a≠c.env.locals∧∃ov,ω.h.IsCell a ov
 u0:∀x y a,c.env.cells.lookup x=some a→c.env.cells.lookup y=some a→x=y
def yy(b:Bx)(ω:Wd):Prop:=
 ∀e∈b.l,e.scope.kind≠ .module∧∃L,e.frame=some L∧(∃o,ω.h.get? L=some o∧P5 o∧o.cls=.type "frame")∧¬ez ω L∧b.B L=none
abbrev Bx.bY(b:Bx)(ω:Wd):Prop:=cT.bY b.P b.B ω
section
variable{b:Bx}{c:Cx}{W:So→Prop}{ω ω' ω₁:Wd}{aa:List V}
theorem yy.ext(S:yy b ω)(X:fZ W ω ω'):yy b ω':= λe he=>by
 obtain⟨k,L,hf,⟨o,ho,hs,hc⟩,hn,hb⟩:=S e he;refine⟨k,L,hf,?_,λz=>hn (X.JU ho z),hb⟩;by_cases c:W L
 ·obtain⟨o',e',d',c'⟩:=X.cls L o c ho hs
  exact⟨o',e',d',c'.trans hc⟩
 ·obtain⟨o',e',s⟩:=X.keep L o ho hn c
  exact⟨o',e',let⟨es,ep,q⟩:=hs;⟨es,ep,s.data.trans q⟩,s.cls.trans hc⟩
theorem aX.keep(F:aX c aa ω)(L:Le ω ω')(hf:∀b o,ω.h.get? b=some o→ez ω' b→ez ω b)
  (k:∀b o,(b=c.env.locals∨ ∃x,c.env.cells.lookup x=some b)→ω.h.get? b=some o→¬ez ω b→(∀vs,o.data≠ .fields vs)→∃o',ω'.h.get? b=some o'∧o'.data=o.data):aX c aa ω':=by
 have cell:∀{x a ov},c.env.cells.lookup x=some a→ω.h.IsCell a ov→¬ez ω a→ω'.h.IsCell a ov:= λhx ⟨o,ho,hd⟩ nf=>by obtain⟨o',e',d⟩:=k _ _ (.inr ⟨_,hx⟩) ho nf (λvs=>by rw[hd];nofun);exact⟨o',e',d.trans hd⟩
 refine⟨?_,λx hx=> ?_,?_,λx a e=> ?_,F.u0⟩
 ·obtain⟨mm,⟨o,es,ep,ho,hd,r⟩,hv⟩:=F.ns
  obtain⟨o',Ea,d⟩:=k _ _ (.inl rfl) ho F.off.1 (λvs=>by rw[hd];nofun);refine⟨mm,⟨o',es,ep,Ea,d.trans hd,r⟩,λx k v h1 h2 h3=> ?_⟩;obtain⟨pv,e,q⟩:=hv x k v h1 h2 h3;exact⟨pv,e,q.bg L⟩
 ·obtain⟨a,ov,e,hc,hv⟩:=F.cell x hx
  refine⟨a,ov,e,cell e hc (F.dP x a e).1,λk v h1 h2=> ?_⟩;obtain⟨pv,e,q⟩:=hv k v h1 h2;exact⟨pv,e,q.bg L⟩
 ·obtain⟨mm,⟨o,es,ep,ho,r⟩,hv⟩:=F.ns
  exact⟨λz=>F.off.1 (hf _ _ ho z),F.off.2⟩
 ·obtain⟨p1,p2,p3,ov,h4⟩:=F.dP x a e
  obtain⟨o,ho,hd⟩:=id h4;exact⟨λz=>p1 (hf _ _ ho z),p2,p3,ov,cell e h4 p1⟩
theorem aX.ext(F:aX c aa ω)(R:c.b.bY ω)(X:fZ W0 ω ω'):aX c aa ω':=
 F.keep (X.PB R) (λb o e f=>X.JU e f) λb o _ e nf _=>let⟨o',e',s⟩:=X.keep b o e nf id;⟨o',e',s.data⟩
noncomputable def RA(l:List SY):List So:=l.filterMap (·.frame)
def Dv(P:PF)(h:S2)(x:So):Prop:= ∃oe vs,h.get? x=some oe∧oe.cls=.ref P.ex∧oe.data=.fields vs∧vs[2]? =some .none∧
 (vs[1]? =some .none∨ ∃T oT ts,vs[1]? =some (.ref T)∧T≠x∧h.get? T=some oT∧oT.cls≠ .type "range"∧oT.data=.fields ts∧ts[3]? =some .none)
structure fC(b:Bx)(W:So→Prop)(ω ω':Wd)(x:So):Prop where
 bH:b.bY ω'
 new:ω.h.get? x=none
 exc:Dv b.P ω'.h x
 ext:fZ W ω ω'
 tb:∀T,(∃oe vs,ω'.h.get? x=some oe∧oe.data=.fields vs∧vs[1]? =some (.ref T))→ω.h.get? T=none
theorem fC.RB(X:fZ W ω ω₁)(R:b.bY ω₁)(S:WS W ω.h){x:So}(F:fC b W ω₁ ω' x):fC b W ω ω' x:=
 ⟨F.bH,X.A0 R S F.new,F.exc,X.trans R S F.ext,λT hh=>X.A0 R S (F.tb T hh)⟩
end
noncomputable abbrev K(α:Type):=(α→Sc→ai→Prop)→KX→Prop
section
variable{α β γ δ:Type}
def jd(b:Bx)(W:So→Prop)(ω:Wd)(rl:Wd→α→γ→Prop)(Q:γ→Sl→Prop)(v:α)(m':ai):Prop:= ∀ω',ω'.m=m'→b.bY ω'→fZ W ω ω'→∀pv,rl ω' v pv→Q pv ω'.s
def IJ(b:Bx)(W:So→Prop)(ω:Wd)(X:Value→Sl→Prop)(m':ai):Prop:=b.A.handled=none∧∀ω' x,ω'.m=m'→fC b W ω ω' x→X (.ref x) ω'.s
structure cP(b:Bx)(W:So→Prop)(ω:Wd)(rl:Wd→α→γ→Prop)(p:K α)(Q:γ→Sl→Prop)(X:Value→Sl→Prop):Prop where
 h:∃k kx,p k kx∧(∀v sc m',k v sc m'→jd b W ω rl Q v m')∧∀m',kx m'→IJ b W ω X m'
def Bo(b:Bx)(W:So→Prop)(ω:Wd)(rl:Wd→α→γ→Prop)(t:SJ γ)(p:K α):Prop:= ∀Q X,cP b W ω rl p Q X→Sq b.P.M b.A t Q X ω.s
variable{b:Bx}{W:So→Prop}{ω ω':Wd}{rl:Wd→α→γ→Prop}{rm:Wd→β→δ→Prop}{Q:γ→Sl→Prop}{X:Value→Sl→Prop}
theorem jd.at{v:α}{m':ai}(h:jd b W ω rl Q v m')(E:fZ W ω ω')(R:b.bY ω')(S:WS W ω.h):jd b W ω' rl Q v m':= λω₂ e R₂ E₂=>h ω₂ e R₂ (E.trans R S E₂)
theorem IJ.at{m':ai}(h:IJ b W ω X m')(E:fZ W ω ω')(R:b.bY ω')(S:WS W ω.h):IJ b W ω' X m':=⟨h.1,λω₂ x e F=>h.2 ω₂ x e (F.RB E R S)⟩
theorem cP.elim{p:K α}{G:Prop}(w:cP b W ω rl p Q X)(f:∀k kx,p k kx→(∀v sc m',k v sc m'→jd b W ω rl Q v m')→(∀m',kx m'→IJ b W ω X m')→G):G:=by obtain⟨k,kx,hp,hk,hx⟩:=w.h;exact f k kx hp hk hx
theorem cP.at{p:K α}(w:cP b W ω rl p Q X)(E:fZ W ω ω')(R:b.bY ω')(S:WS W ω.h):cP b W ω' rl p Q X:=
 w.elim λk kx hp hk hx=>⟨k,kx,hp,λv sc m h=>(hk v sc m h).at E R S,λm h=>(hx m h).at E R S⟩
theorem cP.fin{v:α}{sc:Sc}{m':ai}(w:cP b W ω rl (λk _=>k v sc m') Q X)(ω':Wd)(e:ω'.m=m')(R:b.bY ω')(E:fZ W ω ω'){pv:γ}(r:rl ω' v pv):Q pv ω'.s:=
 w.elim λ_ _ hp hk _=>hk _ _ _ hp ω' e R E pv r
theorem cP.here{v:α}{sc:Sc}(w:cP b W ω rl (λk _=>k v sc ω.m) Q X)(R:b.bY ω){pv:γ}(r:rl ω v pv):Q pv ω.s:=w.fin ω rfl R .refl r
theorem cP.exn{m':ai}(w:cP b W ω rl (λ_ kx=>kx m') Q X):IJ b W ω X m':=w.elim λ_ _ hp _ hx=>hx _ hp
theorem cP.by{p q:K α}{G:Prop}(w:cP b W ω rl p Q X)(f:∀k kx,p k kx→G∧q k kx):G∧cP b W ω rl q Q X:=w.elim λk kx hp hk hx=>⟨(f k kx hp).1,k,kx,(f k kx hp).2,hk,hx⟩
theorem cP.ex{ι:Type}{p:K α}{q:ι→K α}{G:ι→Prop}(w:cP b W ω rl p Q X)(f:∀k kx,p k kx→∃i,G i∧q i k kx):∃i,G i∧cP b W ω rl (q i) Q X:=w.elim λk kx hp hk hx=>by obtain⟨i,g,h⟩:=f k kx hp;exact⟨i,g,k,kx,h,hk,hx⟩
theorem Bo.bind{t:SJ δ}{p:K β}{f:β→Sc→ai→K α}{C:δ→Sl→Prop}(h:Bo b W ω rm t p)(w:cP b W ω rl (λk kx=>p (λv sc m=>f v sc m k kx) kx) Q X)(S:WS W ω.h)
  (k:∀ω₁ v sc pv,b.bY ω₁→fZ W ω ω₁→rm ω₁ v pv→cP b W ω₁ rl (f v sc ω₁.m) Q X→C pv ω₁.s):Sq b.P.M b.A t C X ω.s:=
 w.elim λk' kx hp hk hx=>h C X ⟨_,kx,hp,λv sc m hf ω₁ e R E pv r=>k ω₁ v sc pv R E r ⟨k',kx,e▸hf,λv sc m h=>(hk v sc m h).at E R S,λm h=>(hx m h).at E R S⟩,hx⟩
theorem cP.ask{p:An→Option β}{x:Option β}{sc:Sc}{g:β→Sc→K α}(w:cP b W ω rl (λk kx=>cT.ask p x sc λv sc=>g v sc k kx) Q X):∃v sc,x=some v∧cP b W ω rl (g v sc) Q X:=by
 obtain⟨⟨v,sc⟩,e,w⟩:=w.ex (ι:=β×Sc) (q:= λi=>g i.1 i.2) (G:= λi=>x=some i.1) λk kx h=>by obtain⟨v,sc,e,h⟩:=uL h;exact⟨(v,sc),e,h⟩
 exact⟨v,sc,e,w⟩
theorem cP.gp{x:Option β}{sc:Sc}{g:β→Sc→K α}(w:cP b W ω rl (λk kx=>cT.gp x (λv sc=>g v sc k kx) sc) Q X):∃v sc,x=some v∧cP b W ω rl (g v sc) Q X:=by
 obtain⟨⟨v,sc⟩,e,w⟩:=w.ex (ι:=β×Sc) (q:= λi=>g i.1 i.2) (G:= λi=>x=some i.1) λk kx h=>by obtain⟨v,sc,e,h⟩:=eK h;exact⟨(v,sc),e,h⟩
 exact⟨v,sc,e,w⟩
theorem cP.nR{q:Bool}{g:K α}(w:cP b W ω rl (λk kx=>cT.nR q (g k kx)) Q X):q=true∧cP b W ω rl g Q X:=w.by λ_ _=>qq
theorem cP.yw{q:Bool}{sc:Sc}{g:Sc→K α}(w:cP b W ω rl (λk kx=>cT.ask An.qi (some q) sc λb sc=>cT.nR b (g sc k kx)) Q X):q=true∧∃sc,cP b W ω rl (g sc) Q X:=by obtain⟨v,sc,e,w⟩:=w.ask (g:= λb sc k kx=>cT.nR b (g sc k kx));cases e;exact⟨w.nR.1,sc,w.nR.2⟩
theorem cP.no{G:Prop}(w:cP b W ω rl (λ_ _=>False) Q X):G:=w.elim λ_ _ hp _ _=>hp.elim
theorem cP.out{x:uf β}{p:(β→Sc→ai→Prop)→Prop}{g:β→Sc→ai→K α}(w:cP b W ω rl (λk kx=>p λv sc m=>g v sc m k kx) Q X)(hp:∀k,p k→B3 x k):∃v m sc,x=.ok v m∧cP b W ω rl (g v sc m) Q X:=by
 obtain⟨⟨v,m,sc⟩,e,w⟩:=w.ex (ι:=β×ai×Sc) (q:= λi=>g i.1 i.2.2 i.2.1) (G:= λi=>x=.ok i.1 i.2.1) λk kx h=>by obtain⟨v,m,sc,e,h⟩:=hp _ h;exact⟨(v,m,sc),e,h⟩
 exact⟨v,m,sc,e,w⟩
theorem Bo.p7{t:SJ γ}{p:K α}(h:Bo b W0 ω rl t p)(hf:∀b,W b→¬ez ω b):Bo b W ω rl t p:= λQ X w=>
 w.elim λk kx hp hk hx=>h Q X ⟨k,kx,hp,λv sc m h ω' e R E=>hk v sc m h ω' e R (E.p7 hf),λm h=>⟨(hx m h).1,λω' x e F=>(hx m h).2 ω' x e ⟨F.bH,F.new,F.exc,F.ext.p7 hf,F.tb⟩⟩⟩
end
abbrev fu(B:Base)(h:S2):Prop:= ∀b o,B b=some o→h.get? b=some o
noncomputable def bis:List (Sv×Value):=[("len",.builtin "len"),("sorted",.builtin "sorted"),("range",.type "range"),("max",.builtin "max"),("bytes",.type "bytes"),("tuple",.type "tuple"),("all",.builtin "all")]
structure Jb(P:PF)(B:Base):Prop where
 Mn:∀h,fu B h→P.K.In h
 dI:∀h,fu B h→∃mg mb,h.Ns TG mg∧(∀x r,Ub P.K TG x=some r→mg x=r)∧h.Ns builtinsNs mb∧∀p∈bis,mb p.1=some p.2
 lim:∀h,fu B h→h.NoLimit
 sys:(B UX).isSome=true
def zH(A:S3)(B:Base):Prop:=A.handled=none∨ ∃x o vs,A.handled=some (.ref x)∧B x=some o∧o.data=.fields vs∧vs[2]? =some .none
end
section
section
variable{P:PF}{B:Base}{A:S3}{ω:Wd}{s:Sl}{Q:Value→Sl→Prop}{X:Value→Sl→Prop}
theorem BB{a:Int}{n:Nat}(h:a.natAbs<n): -(n:Int)<a∧a<n:=
 ⟨Int.neg_lt_of_neg_lt (VV (by have:=ZM (a:= -a);rwa [Int.natAbs_neg] at this) (TH.mpr h)),VV ZM (TH.mpr h)⟩
theorem Ou{a:Int}(h:a.natAbs<2^64):aqr a≤64:=intBits_le_64 (BB h).1 (BB h).2
noncomputable def nN:Op→Operator
 |.add=> .Add|.sub=> .Sub|.mul=> .Mult|.fdiv=> .FloorDiv|.qA=> .Mod|.pow=> .Pow|.shl=> .LShift|.shr=> .RShift|.Hg=> .BitAnd|.bor=> .BitOr
theorem AQ(x:Int):ZN x= -x-1:=rfl
theorem Mk{a:Int}(h:0≤a):decide (0≤ZN a)=false:=aH (by rw[AQ];omega)
theorem PO(a:Int): -(-a-1)-1=a:=by omega
theorem M4{a b:Int}(ha:0≤a)(hb:0≤b):ZO a b=((a.toNat|||b.toNat:Nat):Int):=by unfold ZO Yn;rw[Mk ha,Mk hb];simp only[AQ,PO]
theorem Lg{a b:Int}(ha:0≤a)(hb:0≤b):Yn a b=((a.toNat&&&b.toNat:Nat):Int):=by unfold Yn;rw[aC ha,aC hb]
theorem oY{p:Prop}[Decidable p]{x k:Int}(h:(if p then some x else none)=some k):p∧k=x:=⟨(oV h).1,(SN (oV h).2).symm⟩
theorem K4{op:Op}{i j k:Int}{t u:Tok}(h:op.nC i j=some k)(hQ:∀tk t',Q (.int k t') {s with toks:=tk}):Sq P.M A (Wy (nN op) (.int i t) (.int j u)) Q X s:=by
 cases op
 ·cases h;exact PySem.P.add_int (hQ _ _)
 ·cases h;exact PySem.P.sub_int (hQ _ _)
 ·obtain⟨h1,rfl⟩:=oY h;exact PySem.P.mul_int (hQ _ _) (IntMulOk.of_left (Ou h1))
 ·obtain⟨⟨h1,h2⟩,rfl⟩:=oY h;exact aqs h1 (hQ _ _) (.inl (PyProof.noPylong_small h2))
 ·by_cases h1:j=0
  ·exact no ((aG h1).symm.trans h)
  ·cases(aJ h1).symm.trans h;exact aqt h1 (hQ _ _)
 ·obtain⟨⟨h1,h2,h3,h4⟩,rfl⟩:=oY h;exact aqu h3 (by omega) (by omega) (hQ _ _)
 ·obtain⟨⟨h1,h2,h3,h4⟩,rfl⟩:=oY h
  exact aqv h3 (by have:=Ou (a:=i) (by omega);omega) (hQ _ _)
 ·obtain⟨⟨h1,h2⟩,rfl⟩:=oY h;exact aqw h1 (hQ _ _)
 ·obtain⟨⟨h1,h2⟩,rfl⟩:=oY h;exact aqx (Lg h1 h2▸hQ _ _)
 ·obtain⟨⟨h1,h2⟩,rfl⟩:=oY h;exact aqy (M4 h1 h2▸hQ _ _)
structure lB(ω:Wd)(x:So)(l:List V)(xs:Array Value):Prop where
 at_:ω.h.IsList x xs
 aa:eF ω l xs.toList
 small:l.length≤ay
theorem lB.size{x:So}{l:List V}{xs:Array Value}(L:lB ω x l xs):xs.size=l.length:=UY.symm.trans L.aa.length.symm
theorem gM:ay≤Uc:=by decide
theorem lB.line{x:So}{l:List V}{xs:Array Value}(L:lB ω x l xs):xs.size≤Uc:=L.size▸SG L.small gM
theorem F0{n:Nat}(h:n≤ay):(n:Int)<2^63:=VV (UZ.mpr h) (by decide)
theorem lB.big{x:So}{l:List V}{xs:Array Value}(L:lB ω x l xs):(xs.size:Int)<2^63:=F0 (L.size▸L.small)
theorem bY.list(R:bY P B ω){a:Nat}{l:List V}(e:ω.m.get a=some (.list l)):∃xs,ω.h.PlainList (ω.σ.r a) xs∧lB ω (ω.σ.r a) l xs:=by obtain⟨_,⟨xs,h1,h2⟩,h3⟩:=R.obj a _ e;exact⟨xs,h1,h1.isList,h2,h3⟩
theorem bY.bare(R:bY P B ω){a:Nat}{l:List V}(e:ω.m.get a=some (.bare l)):∃xs,lB ω (ω.σ.r a) l xs:=by obtain⟨_,⟨xs,h1,h2⟩,h3,_⟩:=R.obj a _ e;exact⟨xs,h1,h2,h3⟩
structure DictAt(P:PF)(ω:Wd)(x:So)(k:KK)(es:List (V×V))(kvs:List (k.T×Value)):Prop where
 at_:ω.h.DictOf (k.knd P) x kvs
 aa:m6 ω k.dec es kvs
 small:es.length≤ay
theorem bY.dict(R:bY P B ω){a:Nat}{k:KK}{es:List (V×V)}(e:ω.m.get a=some (.dict k es)):∃kvs,DictAt P ω (ω.σ.r a) k es kvs:=by obtain⟨_,⟨kvs,h1,h2⟩,h3⟩:=R.obj a _ e;exact⟨kvs,h1,h2,h3⟩
theorem DictAt.line{x:So}{k:KK}{es:List (V×V)}{kvs:List (k.T×Value)}(D:DictAt P ω x k es kvs):kvs.length≤Uc:=D.aa.length▸SG D.small gM
theorem DictAt.Dw{x:So}{k:KK}{es:List (V×V)}{kvs:List (k.T×Value)}(D:DictAt P ω x k es kvs):(kvs.map (·.1)).Nodup:=by obtain⟨_,_,_,_,_,_,_,_,x⟩:=D.at_;exact x
theorem VR.int{v:V}{i:Int}{pv:Value}(e:v.fk=some i)(h:VR ω v pv):∃t,pv=.int i t:=by rw[V.r7 e] at h;exact h
theorem VR.ref{v:V}{a:Nat}{pv:Value}(e:v.iE=some a)(h:VR ω v pv):a<ω.n∧pv=.ref (ω.σ.r a):=by rw[V.BF e] at h;exact h
inductive Cmp (g:List V→List V→Bool):V→V→Prop
 |none:Cmp g .none .none
 |bool (a b:Bool):Cmp g (.bool a) (.bool b)
 |int (a b:Int):Cmp g (.int a) (.int b)
 |bytes (a b:List UInt8):Cmp g (.bytes a) (.bytes b)
 |bJ (a b:List V):g a b=true→Cmp g (.bJ a) (.bJ b)
theorem qF{α:Type}{x:Option α}(h:x.isSome=true):∃a,x=some a:=match x,h with
 |some a,_=>⟨a,rfl⟩
theorem LM{g:List V→List V→Bool}{a b:V}(h:V.aah g a b=true):Cmp g a b:=by
 delta V.aah at h
 cases a with
 |none=>rw[V.of_none h];exact .none
 |bool x=>obtain⟨y,e⟩:=qF h;rw[V.xr e];exact .bool x y
 |int x=>obtain⟨y,e⟩:=qF h;rw[V.r7 e];exact .int x y
 |bytes x=>obtain⟨y,e⟩:=qF h;rw[V.t8 e];exact .bytes x y
 |bJ x=>obtain⟨y,e,h⟩:=dB h;rw[V.ON e];exact .bJ x y h
 |_=>exact gg h
noncomputable abbrev adK(n:Nat)(l l':List V):Bool:=(l.zip l').all λp=>V.bT n p.1 p.2
theorem Ct{T:Nat→V→V→Prop}(h:∀n g,(∀l l',g l l'=true→∃m,n=m+1∧adK m l l'=true∧∀a b,V.bT m a b=true→T m a b)→∀a b,Cmp g a b→T n a b):∀n a b,V.bT n a b=true→T n a b:=by
 intro n
 induction n with
 |zero=>exactλa b c=>h 0 _ (λ_ _ e=>gg e) a b (LM c)
 |succ n ih=>exactλa b c=>h (n+1) _ (λl l' e=>⟨n,rfl,e,ih⟩) a b (LM c)
theorem eF.inj(n:Nat)(ih:∀a b,V.bT n a b=true→∀pv,VR ω a pv→VR ω b pv→a=b){l:List V}:∀{l':List V} {z:List Value},eF ω l z→eF ω l' z→adK n l l'=true→l=l':=by
 induction l with
 |nil=>exactλ{l' z} h h' _=>match l',z,h,h' with
  |[],_,_,_=>rfl
 |cons v l ihl=>exactλ{l' z} h h' c=>match l',z,h,h',c with
  |v'::l',p::z,h,h',c=>by obtain⟨c1,c2⟩:=Sn.mp c;rw[ih v v' c1 p h.1 h'.1,ihl h.2 h'.2 c2]
theorem VR.inj:∀n a b,V.bT n a b=true→∀pv,VR ω a pv→VR ω b pv→a=b:=Ct λn g hg a b c pv x y=>by
 cases c with
 |none=>rfl
 |bool a b=>exact bk V.bool (aqz (x.symm.trans y))
 |int a b=>obtain⟨t,x⟩:=x;obtain⟨u,y⟩:=y;exact bk V.int (aqA (x.symm.trans y)).1
 |bytes a b=>obtain⟨t,x⟩:=x;obtain⟨u,y⟩:=y;exact bk V.bytes (bk Array.toList (aqB (x.symm.trans y)).1)
 |bJ a b q=>
  obtain⟨m,rfl,q,ih⟩:=hg a b q;obtain⟨A1,xs,e1,⟨o,ho,_,_,hd⟩,h1⟩:=x;obtain⟨A2,ys,e2,⟨o',Ea,_,_,hd'⟩,h2⟩:=y;cases e1.symm.trans e2;cases ho.symm.trans Ea;cases hd.symm.trans hd';rw[eF.inj m ih h1 h2 q]
theorem VR.MN{pv:Value}{v:V}(x:VR ω v pv)(b:UInt64)(t:Tok):pv≠ .float b t:=by
 rintro rfl
 cases v with
 |af=>exact x
 |int i=>obtain⟨_,e⟩:=x;exact nomatch e
 |str k=>obtain⟨_,_,e⟩:=x;exact nomatch e
 |bytes k=>obtain⟨_,e⟩:=x;exact nomatch e
 |bJ l=>obtain⟨_,_,e,_⟩:=x;exact nomatch e
 |range a b=>obtain⟨_,_,_,_,e,_⟩:=x;exact nomatch e
 |ref a=>exact nomatch x.2
 |_=>exact nomatch x
open SeqAt in
theorem EqAt.of_rc{y x:Value}{b:Bool}(h:RcAt A s y x b)(hs:y=x→b=true)(hf:∀b t,y≠ .float b t):EqAt A s y x b:= λprog w E Q hq=>by
 unfold eqBool;refine To ?_;refine VC (λhab=> ?_) (λ_=> ?_)
 ·rw[hs (eq_of_beq hab)] at hq
  exact Sm (VW (Sx hq))
 ·dsimp only
  split
  ·rename_i heq;exact(hf _ _ (bk VX heq)).elim
  ·exact Sm (h prog w E _ (Yo hq))
theorem aeP{α:Type}[BEq α][LawfulBEq α][DecidableEq α](a b:α):(a==b)=decide (a=b):=by
 by_cases h:a=b
 ·rw[aC h];exact beq_iff_eq.mpr h
 ·rw[aH h];exact beq_eq_false_iff_ne.mpr h
theorem ja{α β:Type}[DecidableEq α][DecidableEq β](f:α→β)(hf:∀{x y},f x=f y→x=y)(a b:α):decide (f a=f b)=decide (a=b):=decide_eq_decide.mpr ⟨hf,λe=>bk f e⟩
theorem abr(a b:Bool):(a==b)=decide (V.bool a=V.bool b):=(aeP a b).trans (ja V.bool (λe=>V.bool.inj e) a b).symm
theorem ah2(a b:Int):(a==b)=decide (V.int a=V.int b):=(aeP a b).trans (ja V.int (λe=>V.int.inj e) a b).symm
theorem Ms(a b:List UInt8):(a.toArray.toList==b.toArray.toList)=decide (V.bytes a=V.bytes b):=(aeP a b).trans (ja V.bytes (λe=>V.bytes.inj e) a b).symm
theorem uO{l l':List V}:((Sw (min l.length l'.length)).all (λj=>decide (l[j]? =l'[j]?))&&l.length==l'.length)=decide (l=l'):=by
 rw[Xl,Vr,S9,beq_iff_eq,decide_eq_true_iff];refine⟨λ⟨h1,h2⟩=>Yp λi=> ?_,λe=>e▸⟨λ_ _=>aC rfl,rfl⟩⟩;by_cases c:i<l.length
 ·exact of_decide_eq_true (h1 i (UM.mpr (by rw[←h2,VD];exact c)))
 ·rw[Vc (SS c),Vc (h2▸SS c)]
theorem eF.at_{l:List V}{xs:Array Value}(h:eF ω l xs.toList){j:Nat}(hj:j<xs.size):∃hl:j<l.length,VR ω l[j] xs[j]:=by
 have hl:j<l.length:=by rw[h.length,UY];exact hj
 obtain⟨pv,e,r⟩:=h.get (S6 hl);rw[U0,VY hj] at e;exact⟨hl,SN e▸r⟩
theorem acD{n:Nat}{l l':List V}(c:(l.zip l').all (λp=>V.bT n p.1 p.2)=true){j:Nat}(h1:j<l.length)(h2:j<l'.length):V.bT n l[j] l'[j]=true:=by
 have hz:j<(l.zip l').length:=by rw[VZ];exact Nat.lt_min.mpr ⟨h1,h2⟩
 have:=S9.mp c _ (Vf hz)
 rwa [Xm] at this
theorem EL{n:Nat}{a b:V}{pa pb:Value}(c:V.bT n a b=true)(x:VR ω a pa)(y:VR ω b pb)(h:ZP A ω.s pa pb (decide (a=b))):Wz A ω.s pa pb (decide (a=b)):=
 EqAt.of_rc h (λe=>aC (VR.inj n a b c pb (e▸x) y)) x.MN
abbrev RcT(ω:Wd)(n:Nat)(a b:V):Prop:= ∀(A:S3) (pa pb:Value),A.units+n<TJ→VR ω a pa→VR ω b pb→ZP A ω.s pa pb (decide (a=b))
theorem Cb{xs ys:Array Value}{l l':List V}{n:Nat}(hs:eF ω l xs.toList)(ue:eF ω l' ys.toList)(c:adK n l l'=true)(hu:A.units+n<TJ)
  (ih:∀a b,V.bT n a b=true→RcT ω n a b) (j:Nat) (h1:j<xs.size) (h2:j<ys.size):Wz A ω.s xs[j] ys[j] (decide (l[j]? =l'[j]?)):=by
 obtain⟨e1,p⟩:=hs.at_ h1;obtain⟨e2,q⟩:=ue.at_ h2;have cc:=acD c e1 e2;rw[S6 e1,S6 e2,ja some SN];exact EL cc p q (ih _ _ cc A _ _ hu p q)
theorem jN{l:List V}{xs:Array Value}(h:eF ω l xs.toList):xs.size=l.length:=UY.symm.trans h.length.symm
theorem tC{n:Nat}(hu:A.units+(n+1)<TJ):A.units<TJ∧A.in1.units+n<TJ:=⟨Sz (SV _ _) hu,by show A.units+1+n<TJ;rw[Vg,UN];exact hu⟩
theorem Ij:∀n a b,V.bT n a b=true→RcT ω n a b:=Ct λn g hg a b c A pa pb hu x y=>by
 cases c with
 |none=>cases x;cases y;exact aqC
 |bool a b=>cases x;cases y;exact abr a b▸aqD a b
 |int a b=>obtain⟨t,rfl⟩:=x;obtain⟨u,rfl⟩:=y;exact ah2 a b▸aqE a t b u
 |bytes a b=>obtain⟨t,rfl⟩:=x;obtain⟨u,rfl⟩:=y;exact Ms a b▸ λprog w E Q h=>eq_bytes h
 |bJ a b q=>
  obtain⟨m,rfl,q,ih⟩:=hg a b q;obtain⟨A1,xs,rfl,t1,h1⟩:=x;obtain⟨A2,ys,rfl,t2,h2⟩:=y;have:=aqF t1 t2 (tC hu).1 (Cb (A:=A.in1) h1 h2 q (tC hu).2 ih);rw[jN h1,jN h2,uO] at this;exact(ja V.bJ (λe=>V.bJ.inj e) a b).symm▸this
theorem xg{A:S3}{s:Sl}{x y:Value}{r r':Bool}(e:r=r')(h:Yq A s x y (!r)):Yq A s x y (!r'):=e▸h
theorem Q8:∀n a b,V.bT n a b=true→∀(A:S3) (pa pb:Value),A.units+n<TJ→VR ω a pa→VR ω b pb→Yq A ω.s pa pb (!decide (a=b)):=Ct λn g hg a b c A pa pb hu x y=>by
 cases c with
 |none=>cases x;cases y;exact aqG
 |bool a b=>cases x;cases y;exact xg (abr a b) (aqH a b)
 |int a b=>obtain⟨t,rfl⟩:=x;obtain⟨u,rfl⟩:=y;exact xg (ah2 a b) (aqI a t b u)
 |bytes a b=>obtain⟨t,rfl⟩:=x;obtain⟨u,rfl⟩:=y;exact xg (Ms a b) λprog w E Q h=>ne_bytes h
 |bJ a b q=>
  obtain⟨m,rfl,q,ih⟩:=hg a b q;obtain⟨A1,xs,rfl,t1,h1⟩:=x;obtain⟨A2,ys,rfl,t2,h2⟩:=y;have:=aqJ t1 t2 (tC hu).1 (Cb (A:=A.in1) h1 h2 q (tC hu).2 (Ij m));rw[jN h1,jN h2,uO] at this;exact xg (ja V.bJ (λe=>V.bJ.inj e) a b).symm this
theorem ahf{n:Nat}{A:S3}{a b:V}{pa pb:Value}(hu:A.units+n<TJ)(c:V.bT n a b=true)(x:VR ω a pa)(y:VR ω b pb):Wz A ω.s pa pb (decide (a=b)):=EL c x y (Ij n a b c A pa pb hu x y)
end
end
section
theorem EE:∀i:Fin yY,∀j:Fin yY,SH (gE i)=SH (gE j)→i=j:=by decide+kernel
theorem KK.ja(k:KK){κ κ':k.T}{v v':V}(a:k.dec κ v)(b:k.dec κ' v'):κ=κ'↔v=v':=by
 cases k with
 |int=>subst a;subst b;exact⟨λe=>bk V.int e,λe=>V.int.inj e⟩
 |bytes=>subst a;subst b;exact⟨λe=>bk V.bytes e,λe=>V.bytes.inj e⟩
 |str=>
  obtain⟨i,hi,rfl,rfl⟩:=a;obtain⟨j,hj,rfl,rfl⟩:=b;exact⟨λe=>bk V.str (bk Fin.val (EE ⟨i,hi⟩ ⟨j,hj⟩ e)),λe=>bk (λi=>SH (gE i)) (V.str.inj e)⟩
theorem KK.key{P:PF}{ω:Wd}(k:KK){pv:Value}{v:V}(x:VR ω v pv)(e:kindOf v=some k):∃κ:k.T,(k.knd P).is κ pv=true∧k.dec κ v∧(keyPart pv).isSome=true:=by
 cases v with
 |int i=>cases e;obtain⟨t,rfl⟩:=x;exact⟨i,beq_self_eq_true _,rfl,rfl⟩
 |bytes b=>cases e;obtain⟨t,rfl⟩:=x;exact⟨b,beq_self_eq_true _,rfl,rfl⟩
 |str n=>cases e;obtain⟨h,t,rfl⟩:=x;exact⟨SH (gE n),beq_self_eq_true (SH (gE n)),⟨n,h,rfl,rfl⟩,rfl⟩
 |_=>exact no e
section
variable{ω:Wd}{k:KK}{κ:k.T}{v:V}
theorem m6.look(hk:k.dec κ v){es:List (V×V)}:∀{ps:List (k.T×Value)},m6 ω k.dec es ps→nK ω (look v es) (Xn ps κ):=by
 induction es with
 |nil=>exactλ{ps} h=>by rw[show ps=[] from h];exact rfl
 |cons e es ih=>exactλ{ps} h=>match ps,h with
  |p::ps,h=>by
   have q:=KK.ja k h.1 hk;have i:=ih h.2.2;unfold Xn cT.look at i⊢;rw[Yr,Yr,show decide (e.1=v)=decide (p.1=κ) from decide_eq_decide.mpr q.symm];cases decide (p.1=κ) with
   |true=>exact⟨_,rfl,h.2.1⟩
   |false=>exact i
theorem m6.keys(hk:k.dec κ v){es:List (V×V)}:∀{ps:List (k.T×Value)},m6 ω k.dec es ps→(κ∈ps.map (·.1)↔v∈es.map (·.1)):=by
 induction es with
 |nil=>exactλ{ps} h=>by rw[show ps=[] from h];exact⟨(nomatch ·),(nomatch ·)⟩
 |cons e es ih=>exactλ{ps} h=>match ps,h with
  |p::ps,h=>by rw[TV,TV,SO,SO,ih h.2.2,KK.ja k hk h.1]
theorem DE{K:Type}[DecidableEq K]{p:K×Value}{ps:List (K×Value)}{q:K}{pv:Value}(hn:((p::ps).map (·.1)).Nodup):
  stored (p::ps) q pv=if p.1=q then(p.1,pv)::ps else p::stored ps q pv:=by
 unfold stored;rw[ZQ];by_cases c:p.1=q
 ·rw[aC c,Bool.true_or,aG rfl,aG c,TV,aG c]
  rw[TV,Ui] at hn;have:∀x∈ps,(if x.1=q then(x.1,pv) else x)=x:= λx hx=>aJ λz=>hn.1 (by rw[c,←z];exact ZR hx);rw[Tg this,List.map_id']
 ·rw[aH c,V0,aJ c,TV,aJ c]
  split<;>rfl
theorem m6.bR(hk:k.dec κ v){pv:Value}{u:V}(hv:VR ω u pv){es:List (V×V)}:∀{ps:List (k.T×Value)},m6 ω k.dec es ps→(ps.map (·.1)).Nodup→m6 ω k.dec (cT.bR v u es) (stored ps κ pv):=by
 induction es with
 |nil=>exactλ{ps} h _=>by rw[show ps=[] from h];exact⟨hk,hv,rfl⟩
 |cons e es ih=>exactλ{ps} h hn=>match ps,h,hn with
  |p::ps,h,hn=>by
   have q:=KK.ja k h.1 hk;rw[DE hn];unfold cT.bR;by_cases c:p.1=κ
   ·rw[aG c,aG (q.mp c)];exact⟨h.1,hv,h.2.2⟩
   ·rw[aJ c,aJ λz=>c (q.mpr z)];exact⟨h.1,h.2.1,ih h.2.2 (Ui.mp hn).2⟩
theorem m6.drop(hk:k.dec κ v){es:List (V×V)}:∀{ps:List (k.T×Value)},m6 ω k.dec es ps→m6 ω k.dec (cT.drop v es) (without ps κ):=by
 unfold without cT.drop
 induction es with
 |nil=>exactλ{ps} h=>by rw[show ps=[] from h];exact rfl
 |cons e es ih=>exactλ{ps} h=>match ps,h with
  |p::ps,h=>by
   have q:=KK.ja k h.1 hk;rw[T6,T6,show(!decide (e.1=v))=decide (p.1≠κ) from(bk _ (decide_eq_decide.mpr q.symm)).trans decide_not.symm];cases decide (p.1≠κ) with
   |false=>exact ih h.2.2
   |true=>exact⟨h.1,h.2.1,ih h.2.2⟩
end
theorem oO(k v:V)(es:List (V×V)):(bR k v es).length≤es.length+1:=by
 induction es with
 |nil=>exact SQ _
 |cons p es ih=>
  unfold bR;by_cases c:p.1=k
  ·rw[aG c];exact TM _
  ·rw[aJ c];exact TZ ih
section
variable{P:PF}{B:Base}{A:S3}{ω:Wd}{Q:Value→Sl→Prop}{X:Value→Sl→Prop}
theorem bY.t6(R:bY P B ω)(F:Jb P B){a:Nat}(ha:ω.m.live a=true):(ω.σ.r a==UX)=false:=by rw[beq_eq_false_iff_ne];intro e;have q:=F.sys;rw[←e,(R.fresh a ha).1] at q;exact gg q
noncomputable def ajx:Bool→WA|true=> .In|false=> .NotIn
theorem PE{l:List V}{xs:Array Value}{x:V}{px:Value}(hu:A.units+8<TJ)(hx:VR ω x px)(hl:eF ω l xs.toList)(Q9:l.all (V.bT 8 · x)=true):
  ∃f:Value→Bool,(∀y,y∈xs→Wz A ω.s y px (f y))∧xs.any f=decide (x∈l):=by
 classical
 refine⟨λy=>decide (VR ω x y),λy hy=> ?_,?_⟩
 ·obtain⟨i,hi,rfl⟩:=Array.getElem_of_mem hy
  obtain⟨Rr,r⟩:=hl.at_ hi;have ck:V.bT 8 l[i] x=true:=S9.mp Q9 _ (Vf Rr);have q:decide (l[i]=x)=decide (VR ω x xs[i]):=decide_eq_decide.mpr ⟨λz=>z▸r,λz=>VR.inj 8 _ _ ck _ r z⟩;show Wz A ω.s _ px (decide (VR ω x xs[i]));rw[←q];exact ahf hu ck r hx
 ·rw[Xl,Array.any_eq_true,decide_eq_true_iff]
  constructor
  ·rintro ⟨i,hi,hd⟩
   obtain⟨Rr,r⟩:=hl.at_ hi;have m:=Vf Rr;exact VR.inj 8 _ _ (S9.mp Q9 _ m) _ r (of_decide_eq_true hd)▸m
  ·intro hm
   obtain⟨i,hi,rfl⟩:=ZS hm;have hi2:i<xs.size:=by rw[jN hl];exact hi
   exact⟨i,hi2,aC (hl.at_ hi2).2⟩
theorem nK.isSome{x:Option V}{px:Option Value}(h:nK ω x px):px.isSome=x.isSome:=match x,h with
 |none,h=>by rw[show px=none from h];rfl
 |some _,⟨pv,e,r⟩=>by rw[e];rfl
theorem HY{x c:V}{px pc:Value}{b pos:Bool}(R:bY P B ω)(F:Jb P B)(hu:A.units+100<TJ)(hx:VR ω x px)(hc:VR ω c pc)(e:As x c ω.m=some b)
  (hQ:∀tk,Q (.bool (if pos then b else !b)) {ω.s with toks:=tk}):Sq P.M A (Xo (ajx pos) px pc) Q X ω.s:=by
 have hu':A.in1.units+8<TJ:=Sz (by show A.units+1+8≤A.units+100;omega) hu;cases c with
 |bJ l=>
  obtain⟨a,xs,rfl,ht,hs⟩:=hc;obtain⟨c,e⟩:=jF e;obtain⟨f,hf,ha⟩:=PE hu' hx hs c;have q:=hQ ω.s.toks;rw[←e,←ha] at q;cases pos
  ·exact SeqAt.notIn_tupleAt f ht hf q
  ·exact SeqAt.in_tupleAt f ht hf q
 |ref a=>
  obtain⟨ha,rfl⟩:=hc;obtain⟨o,ho,e⟩:=bind_some e;cases o with
  |list l=>
   obtain⟨c,e⟩:=jF e;obtain⟨xs,_,L⟩:=R.list ho;obtain⟨f,hf,ha⟩:=PE hu' hx L.aa c;have q:=hQ ω.s.toks;rw[←e,←ha] at q;cases pos
   ·exact SeqAt.notIn_listAt f L.at_ hf q
   ·exact SeqAt.in_listAt f L.at_ hf q
  |dict k es=>
   obtain⟨c,e⟩:=jF e;obtain⟨kvs,D⟩:=R.dict ho;obtain⟨κ,h1,h2,_⟩:=KK.key (P:=P) k hx c;have h3:(Xn kvs κ).isSome=b:=(D.aa.look h2).isSome.trans e;cases pos
   ·exact wpAny_notIn_of h1 (R.t6 F (ai.dg ho rfl)) D.at_.mapOf (by rw[h3];exact hQ _)
   ·exact wpAny_in_of h1 (R.t6 F (ai.dg ho rfl)) D.at_.mapOf (by rw[h3];exact hQ _)
  |_=>exact no e
 |_=>exact no e
noncomputable def agA:Bool→WA|true=> .Eq|false=> .NotEq
theorem Ds{l l':List V}{xs ys:Array Value}(h1:xs.size=l.length)(h2:ys.size=l'.length)(hs:xs.size=ys.size):((Sw xs.size).all λj=>decide (l[j]? =l'[j]?))=decide (l=l'):=by have e:l.length=l'.length:=h1.symm.trans (hs.trans h2);rw[←uO,←e,VD,h1,beq_self_eq_true,V1]
theorem PN{a b:V}{pa pb:Value}{r pos:Bool}(R:bY P B ω)(hu:A.units+100<TJ)(ha:VR ω a pa)(hb:VR ω b pb)(e:om a b ω.m=some r)
  (hQ:∀tk,Q (.bool (if pos then r else !r)) {ω.s with toks:=tk}):Sq P.M A (Xo (agA pos) pa pb) Q X ω.s:=by
 have q:=hQ ω.s.toks;have bS:aZ (V.bT 8 a b=true) (decide (a=b))=some r→Sq P.M A (Xo (agA pos) pa pb) Q X ω.s:= λe=>by
  obtain⟨c,e⟩:=jF e;rw[←e] at q;have hu':A.units+8<TJ:=Sz (VE (by decide) _) hu;cases pos
  ·exact Ys (Q8 8 a b c A pa pb hu' ha hb) q
  ·exact Yt (Ij 8 a b c A pa pb hu' ha hb) q
 cases a with
 |ref x=>
  obtain⟨hx,rfl⟩:=ha;obtain⟨l1,e1,e⟩:=bind_some e;obtain⟨y,ey,e⟩:=bind_some e;obtain⟨l2,e2,e⟩:=bind_some e;obtain⟨c,e⟩:=jF e;rw[V.BF ey] at hb;obtain⟨hy,rfl⟩:=hb;obtain⟨xs,_,L1⟩:=R.list (ai.fG e1);obtain⟨ys,_,L2⟩:=R.list (ai.fG e2);have hu1:A.units<TJ:=Sz (SV _ _) hu;by_cases hsz:xs.size=ys.size
  ·have key:=Cb (A:=A.in1) L1.aa L2.aa c (Sz (by show A.units+1+8≤A.units+100;omega) hu) (Ij 8)
   rw[←e,←Ds L1.size L2.size hsz] at q;cases pos
   ·exact Ys (aqK L1.at_ L2.at_ hsz hu1 key) q
   ·exact Yt (aqL L1.at_ L2.at_ hsz hu1 key) q
  ·have hr:r=false:=by
    rw[←e];exact aH λz=>hsz (by rw[L1.size,L2.size,z])
   subst hr;have hne:(xs.size !=ys.size)=true:=bne_iff_ne.mpr hsz;cases pos
   ·exact Ys (aqM L1.at_ L2.at_ hne hu1) q
   ·exact Yt (aqN L1.at_ L2.at_ hne hu1) q
 |_=>exact bS e
noncomputable def N8:Cop→WA
 |.eq=> .Eq|.ne=> .NotEq|.lt=> .Lt|.le=> .LtE|.gt=> .Gt|.ge=> .GtE|.mem=> .In|.pI=> .NotIn
theorem I1{f:Int→Int→Bool}{a b:V}{pa pb:Value}{r:Bool}(ha:VR ω a pa)(hb:VR ω b pb)(e:OX f a b=some r):∃i t j u,pa=.int i t∧pb=.int j u∧r=f i j:=by obtain⟨i,e1,e⟩:=bind_some e;obtain⟨j,e2,e⟩:=map_some e;rw[V.r7 e1] at ha;rw[V.r7 e2] at hb;obtain⟨t,h1⟩:=ha;obtain⟨u,h2⟩:=hb;exact⟨i,t,j,u,h1,h2,e.symm⟩
theorem Qt{op:Cop}{a b:V}{pa pb:Value}{r:Bool}(R:bY P B ω)(F:Jb P B)(hu:A.units+100<TJ)(ha:VR ω a pa)(hb:VR ω b pb)(e:op.run a b ω.m=some r)
  (hQ:∀tk,Q (.bool r) {ω.s with toks:=tk}):Sq P.M A (Xo (N8 op) pa pb) Q X ω.s:=by
 cases op with
 |eq=>exact PN (pos:=true) R hu ha hb e hQ
 |ne=>obtain⟨q,e',rfl⟩:=map_some e;exact PN (pos:=false) R hu ha hb e' hQ
 |lt=>obtain⟨i,t,j,u,rfl,rfl,rfl⟩:=I1 ha hb e;exact PySem.P.lt_int (hQ ω.s.toks)
 |le=>obtain⟨i,t,j,u,rfl,rfl,rfl⟩:=I1 ha hb e;exact PySem.P.le_int (hQ ω.s.toks)
 |gt=>obtain⟨i,t,j,u,rfl,rfl,rfl⟩:=I1 ha hb e;exact PySem.P.gt_int (hQ ω.s.toks)
 |ge=>obtain⟨i,t,j,u,rfl,rfl,rfl⟩:=I1 ha hb e;exact PySem.P.ge_int (hQ ω.s.toks)
 |mem=>exact HY (pos:=true) R F hu ha hb e hQ
 |pI=>obtain⟨q,e',rfl⟩:=map_some e;exact HY (pos:=false) R F hu ha hb e' hQ
theorem r9{v:V}{pv:Value}{b:Bool}{Q:Bool→Sl→Prop}(R:bY P B ω)(hv:VR ω v pv)(e:cT.truthy v ω.m=some b)
  (hQ:∀tk,Q b {ω.s with toks:=tk}):Sq P.M A (V2 pv) Q X ω.s:=by
 cases v with
 |ref a=>
  obtain⟨ha,rfl⟩:=hv;obtain⟨o,ho,e⟩:=bind_some e;cases o with
  |list l=>
   cases e;obtain⟨xs,_,L⟩:=R.list ho;refine wpAny_truthy_list L.at_ L.big ?_;have:xs.isEmpty=l.isEmpty:=by rw[Xl,Array.isEmpty_iff_size_eq_zero,L.size,List.isEmpty_iff_length_eq_zero]
   rw[this];exact hQ _
  |_=>exact no e
 |none=>cases hv;cases e;exact truthy_none (hQ ω.s.toks)
 |bool b=>cases hv;cases e;exact Yo (hQ ω.s.toks)
 |int i=>obtain⟨t,rfl⟩:=hv;cases e;exact PySem.P.truthy_int (hQ ω.s.toks)
 |_=>exact no e
end
end
section
theorem bU(h:S2):h.get? h.objs.size=none:=Vs (SQ _)
theorem cZ.push{s:Sl}{tk:Nat}(o:SK):cZ s {s with heap:=s.heap.push o,toks:=tk}:=⟨λb ob e=>S7 o e,rfl⟩
theorem cZ.of{s:Sl}{h':S2}{tk:Nat}(k:∀b o,s.heap.get? b=some o→h'.get? b=some o):cZ s {s with heap:=h',toks:=tk}:=⟨k,rfl⟩
section
variable{b:Bx}{A:S3}{ω:Wd}{s':Sl}{Q:Value→Sl→Prop}{X:Value→Sl→Prop}
theorem jd.fresh{o:O}{x dx:So}(hQ:jd b W0 ω VR Q (.ref ω.m.next) (ω.m.push o))(RE:b.bY (ω.add o x dx s')∧fZ W0 ω (ω.add o x dx s')):Q (.ref x) s':=
 hQ _ rfl RE.1 RE.2 _ ⟨SX (T3 _) (Te Wd.tW.symm),bk T7 (Loc.add_r ω.σ ω.n x dx).symm⟩
theorem ko.list{P:PF}{l:List V}{xs:Array Value}{x:So}(hl:s'.heap.PlainList x xs)(hv:eF ω l xs.toList)(hsz:l.length≤ay)(G:cZ ω.s s'):ko P (ω.add (.list l) x x s') ω.n (.list l):=
 ⟨(Loc.tM ω.σ ω.n x x).trans (Loc.add_r ω.σ ω.n x x).symm,⟨xs,(Loc.add_r ω.σ ω.n x x).symm▸hl,hv.bg (Wd.GH λb o e _=>G.keep b o e)⟩,hsz⟩
theorem jd.newList{l:List V}{xs:Array Value}{x:So}(hQ:jd b W0 ω VR Q (.ref ω.m.next) (ω.m.push (.list l)))(R:b.bY ω)(G:cZ ω.s s')(hx:ω.h.get? x=none)(hl:s'.heap.PlainList x xs)(hv:eF ω l xs.toList)(hsz:l.length≤ay):Q (.ref x) s':=
 hQ.fresh (R.alloc G hx hx (ko.list hl hv hsz G))
theorem jd.wM{γ α:Type}{W:So→Prop}{rl:Wd→α→γ→Prop}{Q:γ→Sl→Prop}{p q:α×ai}(h:jd b W ω rl Q p.1 p.2)(e:q=p):jd b W ω rl Q q.1 q.2:=e▸h
theorem jd.BW{γ α:Type}{rl:Wd→α→γ→Prop}{Q:γ→Sl→Prop}{v:α}{pv:γ}(hQ:jd b W0 ω rl Q v ω.m)(R:b.bY ω)(G:cZ ω.s s')(r:rl (ω.at s') v pv):Q pv s':=hQ (ω.at s') rfl (G.bH R) G.ext pv r
theorem jd.toks{γ α:Type}{rl:Wd→α→γ→Prop}{Q:γ→Sl→Prop}{v:α}{pv:γ}(hQ:jd b W0 ω rl Q v ω.m)(R:b.bY ω)(tk:Nat)(r:rl (ω.at {ω.s with toks:=tk}) v pv):Q pv {ω.s with toks:=tk}:=hQ.BW R ⟨λ_ _ e=>e,rfl⟩ r
theorem jd.turn{γ α:Type}{rl:Wd→α→γ→Prop}{Q:γ→Sl→Prop}{v:α}{pv:γ}{a:Nat}{o:O}(hQ:jd b W0 ω rl Q v (ω.m.xd a o))(RE:b.bY (ω.pD a o s')∧fZ W0 ω (ω.pD a o s'))(r:fZ W0 ω (ω.pD a o s')→rl (ω.pD a o s') v pv):Q pv s':=hQ _ rfl RE.1 RE.2 pv (r RE.2)
theorem KA{P:PF}{s:Sl}{la lb:So}{xs ys:Array Value}{Q:Value→Sl→Prop}(ha:s.heap.IsList la xs)(hb:s.heap.IsList lb ys)(hsz:xs.size+ys.size≤Uc)
  (h:Q (.ref s.heap.objs.size) {s with heap:=s.heap.push {cls:= .type "list",data:= .seq (xs++ys)}}):Sq P.M A (Wy .Add (.ref la) (.ref lb)) Q X s:=by
 obtain⟨⟨cls,dd,data,sl⟩,ho,hc,n,hd⟩:=id ha;obtain⟨⟨amG,dd2,amC,sl2⟩,ho2,hc2,n2,hd2⟩:=id hb;simp only at hc hd hc2 hd2;subst hc hd hc2 hd2;exact concat_meets ⟨_,ho,rfl⟩ ⟨_,ho2,rfl⟩ noFill_list_add seq_list_add PySem.F.slot_list_add PySem.F.entry_list_add (PySem.F.args_list_add_2 _ _) (list_addW la lb xs ys n n2 dd dd2 sl sl2 hsz) ⟨ho,ho2,h⟩
theorem Mj{op:Op}(h:op.C2=true):op=.add:=by cases op<;>first|rfl|exact gg h
theorem By{n:Nat}(h:n<ay):n≤Uc:=SG (Tv h) gM
theorem JJ{op:Op}{p:List UInt8}{y v:V}{px py:Value}(R:b.bY ω)(hx:VR ω (.bytes p) px)(hy:VR ω y py)(e:op.LF p y=some v)(hQ:jd b W0 ω VR Q v ω.m):Sq b.P.M A (Wy (nN op) px py) Q X ω.s:=
 aD e λj e1 e=>cK e λh ev=>by rw[V.t8 e1] at hy;rw[Mj h.1];obtain⟨t,rfl⟩:=hx;obtain⟨u,rfl⟩:=hy;exact KBy.add_bytes (By h.2) λt' k=>hQ.toks R k (ev.symm▸⟨t',by rw[List.append_toArray]⟩)
theorem Jz{op:Op}{x:Nat}{y:V}{r:V×ai}{py:Value}(R:b.bY ω)(hy:VR ω y py)(e:op.vW x y ω.m=some r)(hQ:jd b W0 ω VR Q r.1 r.2):Sq b.P.M A (Wy (nN op) (.ref (ω.σ.r x)) py) Q X ω.s:=
 aD e λl1 e1 e=>aD e λy' ey e=>aD e λl2 e2 e=>cK e λh er=>by rw[(hy.ref ey).2,Mj h.1];obtain⟨xs,_,L1⟩:=R.list (ai.fG e1);obtain⟨ys,_,L2⟩:=R.list (ai.fG e2);exact KA L1.at_ L2.at_ (by rw[L1.size,L2.size];exact By h.2) ((hQ.wM er.symm).newList (xs:=xs++ys) R (cZ.push (tk:=ω.s.toks) _) (bU _) ⟨0,Tt _ rfl⟩ (by rw[Array.toList_append];exact L2.aa.append L1.aa) (by rw[S4];exact Tv h.2))
theorem Lf{op:Op}{x y v:V}{m':ai}{px py:Value}(R:b.bY ω)(hx:VR ω x px)(hy:VR ω y py)(e:I4 op x y ω.m=.ok v m')(hQ:jd b W0 ω VR Q v m'):Sq b.P.M A (Wy (nN op) px py) Q X ω.s:=by
 delta I4 at e
 cases x with
 |int i=>
  refine dm e λv' e q=>aD e λj e1 e=>dm e λk e2 ev=> ?_
  ·obtain⟨t,rfl⟩:=hx
   obtain⟨u,rfl⟩:=hy.int e1;exact K4 e2 λtk t'=>(hQ.wM (p:=(v,m')) q.symm).toks R tk (ev.symm▸⟨t',rfl⟩)
 |bytes p=>exact dm e λv' e q=>JJ R hx hy e (hQ.wM (p:=(v,m')) q.symm)
 |ref x=>rw[hx.2];exact Jz (r:=(v,m')) R hy e hQ
 |_=>exact no e
theorem zU:entryFor table "proto.unchain"=some Builtin.«proto.unchain»:=entryFor_of_fast (by kernel_rfl)
theorem G1{α:Type}{P:PF}{B:Base}{s:Sl}{a:So}{o:SK}{vs:Array Value}{Q:α→Sl→Prop}(H:zH A B)(Ab:fu B s.heap)(hb:B a=none)(ho:s.heap.get? a=some o)(hd:o.data=.fields vs)(hsz:2<vs.size)
  (h:∀h',Tn a s.heap h'→(∃o',h'.get? a=some o'∧o'.cls=o.cls)→X (.ref a) {s with heap:=h'}):Sq P.M A (Xp (.ref a):SJ α) Q X s:=by
 unfold Xp;refine Sm (wpAny_handled ?_);rcases H with H|⟨x,ox,vx,H,hx,hdx,h2⟩
 ·rw[H]
  exact Sm (Sx (wpAny_throw (h s.heap (λb ob _ e=>e) ⟨o,ho,rfl⟩)))
 ·rw[H]
  have hne:x≠a:= λz=>no (hb.symm.trans (z▸hx));dsimp only;rw[aG (show(T7 x !=T7 a)=true from bne_iff_ne.mpr λz=>hne (aqO z))];refine Sm (To (ZT (Yu zU ?_)));refine Sm (Us (Ab x ox hx) hdx h2 ?_);refine VC (λ_=> ?_) (λz=>absurd (by rfl) z);refine Sx ?_;show Sq _ _ (Yv a 2 (.ref x)>>= λ_=>throw (T7 a)) _ _ _;refine Sm ?_;unfold Yv;refine Sm (Xq ho ?_);rw[hd];dsimp only;rw[aG hsz];refine wpAny_update ho (wpAny_throw (h _ (U1 ..).extBut ⟨_,Ut _ ho ?_,Yw ..⟩));exact WB (V3 hd _)
section
variable{P:PF}{B:Base}{s:Sl}
theorem rU{h h':S2}(Ab:fu B h){x:So}(hx:B x=none)(k:Tn x h h'):fu B h':= λb o e=>k b o (λz=>no (hx.symm.trans (z▸e))) (Ab b o e)
theorem BD{α:Type}{Q:α→Sl→Prop}(H:zH A B)(Ab:fu B s.heap)
  (h:∀x h',(∀b o,s.heap.get? b=some o→h'.get? b=some o)→(∃o',h'.get? x=some o'∧o'.cls=.type "StopIteration")→X (.ref x) {s with heap:=h'}):
  Sq P.M A (newExc (.type "StopIteration") []>>= λe=>(Xp e:SJ α)) Q X s:=by
 refine Sm ?_;simp only[newExc,newTuple];refine Sm (Vh ?_ (by size_fits));refine Sm (m:=ZU _ _) (wpAny_of_eq (a:=Ti) (by first|rfl|(simp only[ZU];rfl)) ?_)
 refine Vh ?_ (by size_fits);have k:∀{o₁ o₂} b ob,s.heap.get? b=some ob→((s.heap.push o₁).push o₂).get? b=some ob:= λb ob e=>S7 _ (S7 _ e);refine G1 (B:=B) H (λb o e=>k b o (Ab b o e)) (fQ (λb o e=>S7 _ (Ab b o e)) (bU _)) (Tt _ rfl) rfl (by show 2<(_:Array Value).size;rw[Array.size_append];exact SX (by decide:2<6) (SV _ _)) λh' he hc=> ?_;exact h _ h' (λb o e=>he b o (T9 (SX (UG e) (by rw[Uj];exact TM _))) (k b o e)) hc
theorem DS{it l:So}{i:Nat}{items:Array Value}{Q:Option Value→Sl→Prop}(H:zH A B)(Ab:fu B s.heap)(hi:B it=none)
  (hit:s.heap.IsListIter it l i) (hl:s.heap.IsList l items) (hx:items[i]? =none)
  (hQ:∀h',Tn it s.heap h'→Q none {s with heap:=h'}):Sq P.M A (Uk (.ref it)) Q X s:=by
 obtain⟨o,ho,hc,hd⟩:=id hit;obtain⟨ol,hol,_,nl,hdl⟩:=hl;unfold Uk;refine Sm (Xr (WC (name:=SH "__next__") hit.typeIs ZV
  (V4 ZV hit.typeIs entry_listiter_next ?_ (args_listiter_next _))))
 show Sq _ _ (field (.ref it) 0>>=_) _ _ s;refine Sm (Us ho hd (x:= .ref l) rfl ?_);refine VC (λz=>absurd z Tc) (λ_=> ?_);show Sq _ _ (field (.ref it) 1>>=_) _ _ s;refine Sm (Us ho hd (x:= .int i 0) rfl ?_);show Sq _ _ (seqItems? (.ref l)>>=_) _ _ s;refine Sm (ZW hol hdl ?_);rw[Ug];dsimp only;rw[hx];refine Sm (VW (Sm (VF ho hd (Yx _) ?_)));have k:=(U1 s.heap it (Uy (·.setIfInBounds 0 Ti))).extBut;exact BD (P:=P) (A:=A.in1) (B:=B) H (rU Ab hi k) λx h' hk hc'=>Sm (WD (T:="StopIteration") (b:=true) hc' Xs (Sx (hQ _ λb ob hb e=>hk b ob (k b ob hb e))))
theorem Kr{it t:So}{i:Nat}{items:Array Value}{Q:Option Value→Sl→Prop}(H:zH A B)(Ab:fu B s.heap)(hi:B it=none)
  (hit:s.heap.IsTupleIter it t i) (ht:s.heap.IsTuple t items) (hx:items[i]? =none)
  (hQ:∀h',Tn it s.heap h'→Q none {s with heap:=h'}):Sq P.M A (Uk (.ref it)) Q X s:=by
 obtain⟨o,ho,hc,hd⟩:=id hit;obtain⟨ol,hol,_,nl,hdl⟩:=ht;unfold Uk;refine Sm (Xr (WC (name:=SH "__next__") hit.typeIs ZX
  (V4 ZX hit.typeIs PySem.F.entry_tuple_iterator_next ?_ (PySem.F.args_tuple_iterator_next_1 _))))
 show Sq _ _ (field (.ref it) 0>>=_) _ _ s;refine Sm (Us ho hd (x:= .ref t) rfl ?_);refine VC (λz=>absurd z Tc) (λ_=> ?_);show Sq _ _ (field (.ref it) 1>>=_) _ _ s;refine Sm (Us ho hd (x:= .int i 0) rfl ?_);show Sq _ _ (seqItems? (.ref t)>>=_) _ _ s;refine Sm (ZW hol hdl ?_);rw[Ug];dsimp only;rw[hx];refine Sm (VW (Sm (VF ho hd (Yx _) ?_)));have k:=(U1 s.heap it (Uy (·.setIfInBounds 0 Ti))).extBut;exact BD (P:=P) (A:=A.in1) (B:=B) H (rU Ab hi k) λx h' hk hc'=>Sm (WD (T:="StopIteration") (b:=true) hc' Xs (Sx (hQ _ λb ob hb e=>hk b ob (k b ob hb e))))
theorem Kh{it:So}{x left step:Int}{Q:Option Value→Sl→Prop}(H:zH A B)(Ab:fu B s.heap)(hit:Yy s.heap it x left step)(hleft:left≤0)
  (hQ:∀h',Tn it s.heap h'→Q none {s with heap:=h'}):Sq P.M A (Uk (.ref it)) Q X s:=by
 have hT:s.TypeIs (.ref it) "range_iterator":=⟨_,hit,rfl⟩;unfold Uk;refine Sm (Xr (WC (name:=SH "__next__") hT ZY
  (V4 ZY hT PySem.F.entry_range_iterator_next ?_ (PySem.F.args_range_iterator_next_1 _))))
 show Sq _ _ (field (.ref it) 0>>=_) _ _ s;refine Sm (Us hit rfl (x:=Ul x) rfl ?_);show Sq _ _ (field (.ref it) 1>>=_) _ _ s;refine Sm (Us hit rfl (x:=Ul left) rfl ?_);show Sq _ _ (field (.ref it) 2>>=_) _ _ s;refine Sm (Us hit rfl (x:=Ul step) rfl ?_);show Sq _ _ (if left≤0 then _ else _) _ _ s;rw[aG hleft];refine Sm (VW ?_);refine Sm ?_;exact BD (P:=P) (A:=A.in1) (B:=B) H Ab λx h' hk hc'=>Sm (WD (T:="StopIteration") (b:=true) hc' Xs (Sx (hQ _ λb ob hb e=>hk b ob e)))
end
section
variable{P:PF}{B:Base}{s:Sl}{K:Type}[DecidableEq K]{knd:ZZ P.prog P.w K}
theorem Pd{it d:So}{i ep:Nat}{kvs:List (K×Value)}{Q:Option Value→Sl→Prop}(H:zH A B)(Ab:fu B s.heap)(hi:B it=none)(hit:s.heap.IsKeyIter it d i kvs.length ep)
  (hm:s.heap.DictAt knd d kvs ep) (hx:kvs[i]? =none)
  (hQ:∀h',Tn it s.heap h'→Q none {s with heap:=h'}):Sq P.M A (Uk (.ref it)) Q X s:=by
 obtain⟨o,ho,hc,hd⟩:=id hit;obtain⟨od,es,hod,hcd,hdd,hk,hp,hn⟩:=id hm;have hsz:es.size=kvs.length:=by rw[←hp.length,UY]
 have hge:es.size≤i:=by rw[hsz];exact Ym.mp hx
 unfold Uk;refine Sm (Xr (WC (name:=SH "__next__") hit.typeIs Z0
  (V4 Z0 hit.typeIs PySem.F.entry_dict_keyiterator_next ?_ (PySem.F.args_dict_keyiterator_next_1 _))))
 refine Sm (Sx ?_);refine Sm ?_;refine Sm ?_
 first|refine Sm (Z1 hit.typeIs (Sx ?_))|refine Sm (mV hit.typeIs (Sx ?_))
 refine Sm (wpAny_fieldsOf ho hd ?_);have akY:aqP "dict_keyiterator"=false:=by decide
 rw[akY];refine VC (λz=>absurd z Tc) (λ_=> ?_);refine Sm (Sx ?_);refine Sm (Xu hod hdd ?_);rw[aJ (by rw[hsz];exactλz=>absurd (bne_iff_ne.mp z) (λz=>z rfl))];refine Sm (Sx ?_);refine Sm (Yz hod hdd ?_);rw[aJ (λz=>absurd (bne_iff_ne.mp z) (λz=>z rfl))];refine Sx ?_;simp only[show¬((i:Int)<0) from U3.mpr (Tw i),if_false,Ug,Array.getElem?_eq_none hge];refine Sm ?_
 first|refine Sm (Z1 hit.typeIs (Sx ?_))|refine Sm (mV hit.typeIs (Sx ?_))
 show Sq _ _ (setField (.ref it) 0 .none>>=_) _ _ s;refine Sm (VF ho hd (Yx _) ?_);have k:=(U1 s.heap it (Uy (·.setIfInBounds 0 Ti))).extBut;exact BD (P:=P) (A:=A.in1) (B:=B) H (rU Ab hi k) λx h' hk hc'=>Sm (WD (T:="StopIteration") (b:=true) hc' Xs (Sx (hQ _ λb ob hb e=>hk b ob (k b ob hb e))))
end
end
end
section
noncomputable def mK(A:S3):List So:=match A.handled with
 |some (.ref x)=>[x]
 |_=>[]
noncomputable def Bh(A:S3)(B:Base):Base:= λb=>if b∈mK A then B b else none
section
variable{P:PF}{B:Base}{A:S3}{s:Sl}{h h':S2}
theorem zH.small(H:zH A B):zH A (Bh A B):=by
 rcases H with H|⟨x,o,vs,H,hx,r⟩
 ·exact .inl H
 ·refine .inr ⟨x,o,vs,H,?_,r⟩
  unfold Bh mK;rw[H];simpa using hx
theorem vK(Ab:fu B h):fu (Bh A B) h:= λb o e=>by
 unfold Bh at e
 split at e
 ·exact Ab b o e
 ·cases e
theorem vt(Ab:fu (Bh A B) h)(hk:∀b∈mK A,∀o,h.get? b=some o→h'.get? b=some o):fu (Bh A B) h':= λb o e=>by
 have e':=Ab b o e;unfold Bh at e
 split at e
 ·rename_i hb;exact hk b hb o e'
 ·cases e
theorem qh{b:So}(hb:B b=none):Bh A B b=none:=by
 unfold Bh;split
 ·exact hb
 ·rfl
theorem Lh(H:zH A B)(I ax:So)(hne:ax≠I)(hI:B I=none)(items:Array Value):
  Walks P.prog P.w A I (I::ax::mK A) [I] items.size (λi v=>items[i]? =some v) (λi h=>(h.IsListIter I ax i∧h.IsList ax items)∧fu (Bh A B) h) where
 sub:= λb hb=>by simp at hb;simp[hb]
 frame:= λ_ _ _ st hk=>⟨⟨st.1.1.at λo e=>hk I (by simp) o e,st.1.2.at λo e=>hk ax (by simp) o e⟩,vt st.2 λb hb o e=>hk b (by simp[hb]) o e⟩
 item:= λi s Q E hi st hQ=>by refine Z2 st.1.1 st.1.2 (x:=items[i]) (by simp[hi]) λh' ada ue=> ?_;refine hQ _ h' s.toks (by simp[hi]) ⟨⟨ada,st.1.2.extBut ue.extBut hne⟩,λb o e=>ue.extBut b o (λz=> ?_) (st.2 b o e)⟩ λb o hb e=>ue.extBut b o (λh=>hb (by simp[h])) e;rw[z,qh hI] at e;cases e
 done:= λs Q E st hQ=>DS (P:=P) H.small st.2 (qh hI) st.1.1 st.1.2 (by simp) λh' he'=>hQ h' s.toks λb o hb e=>he' b o (λh=>hb (by simp[h])) e
 self:= λ_ _ _ _ st hQ=>Z3 st.1.1 hQ
end
theorem AV:∀{vs:List Value} {ns:List Int},vs.length=ns.length→(∀(i:Nat) (v:Value),vs[i]? =some v→∃n t,v=Value.int n t∧ns[i]? =some n)→VG vs ns
 |[],[],_,_=> .nil
 |v::vs,n::ns,hl,h=>by obtain⟨n',t,rfl,e⟩:=h 0 v rfl;cases e;exact .cons _ _ (AV (VH hl) λi v hv=>h (i+1) v hv)
theorem iV{h h':S2}{x:So}(hk:∀b o,h.get? b=some o→h'.get? b=some o)(hx:h'.get? x=none):h.get? x=none:=by
 cases q:h.get? x with
 |none=>rfl
 |some o=>rw[hk x o q] at hx;cases hx
theorem nP{h:S2}{a:So}{vs:List Value}{out:Array Value}{ys:Array Value}{n:Nat}(ho:h.get? a=some (Vi "list" ys n)):
  (YA h a vs out).PlainList a out∧∀b o,b≠a→h.get? b=some o→(YA h a vs out).get? b=some o:=by
 have h1:=Z4 ho (λ_=> #[]);have h2:=S7 (Vi "list" #[] 0) (S7 (Vi "tuple" vs.toArray 0) h1);have h3:=Z4 h2 (λ_=>out);refine⟨⟨_,h3⟩,λb o hb e=> ?_⟩;exact(UO _ _ (Tf hb)).trans (S7 _ (S7 _ ((UO _ _ (Tf hb)).trans e)))
section
variable{P:PF}{B:Base}{A:S3}{s:Sl}{K:Type}[DecidableEq K]{knd:ZZ P.prog P.w K}
theorem Kf(H:zH A B)(I d:So)(hne:d≠I)(hI:B I=none)(kvs:List (K×Value))(ep:Nat):
  Walks P.prog P.w A I (I::d::mK A) [I] kvs.length (λi v=> ∃k x,kvs[i]? =some (k,x)∧knd.is k v=true) (λi h=>(h.IsKeyIter I d i kvs.length ep∧h.DictAt knd d kvs ep)∧fu (Bh A B) h) where
 sub:= λb hb=>by simp at hb;simp[hb]
 frame:= λ_ _ _ st hk=>⟨⟨st.1.1.at λo e=>hk I (by simp) o e,st.1.2.at' λo e=>hk d (by simp) o e⟩,vt st.2 λb hb o e=>hk b (by simp[hb]) o e⟩
 item:= λi s Q E hi st hQ=>by obtain⟨⟨k,x⟩,hx⟩:∃p,kvs[i]? =some p:=⟨kvs[i],by simp[hi]⟩;refine wpAny_pyNext_dict_item st.1.1 st.1.2 hx λkey h' hkey ada ue=> ?_;refine hQ key h' s.toks ⟨k,x,hx,hkey⟩ ⟨⟨ada,st.1.2.extBut ue.extBut hne⟩,λb o e=>ue.extBut b o (λz=> ?_) (st.2 b o e)⟩ λb o hb e=>ue.extBut b o (λh=>hb (by simp[h])) e;rw[z,qh hI] at e;cases e
 done:= λs Q E st hQ=>Pd (P:=P) H.small st.2 (qh hI) st.1.1 st.1.2 (by simp) λh' he'=>hQ h' s.toks λb o hb e=>he' b o (λh=>hb (by simp[h])) e
 self:= λ_ _ _ _ st hQ=>wpAny_pyIter_keyiter st.1.1 hQ
theorem EA{R:U4→Sl→Prop}{S d:So}{kvs:List (K×Value)}{ep c₀:Nat}(H:zH A B)(Ab:fu B s.heap)(lo:(d==UX)=false)(hm:s.heap.DictAt knd d kvs ep)(hSd:S≠d)(hSh:S∉mK A)(hSb:B S=none)(res:Value)
  (hS:s.heap.get? S=some {cls:= .type "list",data:= .seq #[] c₀}) (hn:kvs.length≤Uc)
  (hR:∀h' tk acc' c',(∀b o,b≠S→s.heap.get? b=some o→h'.get? b=some o)→h'.get? S=some {cls:= .type "list",dict:=none,data:= .seq acc' c',slots:= #[]}→
   YB (λi v=> ∃k x,kvs[i]? =some (k,x)∧knd.is k v=true) acc' kvs.length→R (.ok (.ret res)) {s with heap:=h',toks:=tk}):
  Sq P.M A.in1 (YC (.ref S) (.ref d) res)
   (λfin s'=>match fin with|.done f=>R (.ok f) s'|.again c'=>c'.quiet=true∧UP P.M A c' R s') (λe s'=>R (.error e) s') s:=by
 have bI:B s.heap.objs.size=none:=fQ Ab (bU _);have hSI:S≠s.heap.objs.size:=T9 (UG hS);have hSf:S∉s.heap.objs.size::d::mK A:=by simp only[SO,not_or];exact⟨hSI,hSd,hSh⟩
 have W:=Kf (P:=P) (A:=A.in1) (B:=B) (knd:=knd) H s.heap.objs.size d (T9 hm.lt_size) bI kvs ep;have key:∀(h:S2) (c₁ tk:Nat),((h.IsKeyIter s.heap.objs.size d 0 kvs.length ep∧h.DictAt knd d kvs ep)∧fu (Bh A B) h)→(∀b o,b≠S→s.heap.get? b=some o→h.get? b=some o)→
   h.get? S=some {cls:= .type "list",data:= .seq #[] c₁}→UP P.M A (.builtin "list.extend.loop" ⟨[.ref S,.ref s.heap.objs.size,res],[]⟩) R {s with heap:=h,toks:=tk}:=by
  intro h c₁ tk hst hk RS;refine codeAny_extend_loopS W.toS hn S hSf res kvs.length 0 _ #[] c₁ rfl (Um _) hst RS (ItemsOf.nil _) λs' acc' c' hmv hS' Af=> ?_;rw[Moved.eq_with hmv];refine hR s'.heap s'.toks acc' c' (λb o hb e=>hmv.heap b o (λac2=> ?_) (hk b o hb e)) hS' Af;rcases SO.mp ac2 with e'|ac2
  ·exact hb e'
  ·exact absurd (UG e) (by rw[Tp.mp ac2];exact V5 _)
 unfold YC;refine Sm (wpAny_typeOf (T:="dict") hm.dictOf.typeIs ?_);have h1:Z5 (.ref S) (.ref d)=false:=by simp[Z5,hSd]
 have h2:(VT "dict"==VT "list")=false:=by decide
 have h3:(VT "dict"==VT "tuple")=false:=by decide
 simp only[h1,h2,h3,Vj,Xv,if_false];refine Sm (wpAny_pyIter_dict lo hm ?_);have RS:∀oI,(s.heap.push oI).get? S=some {cls:= .type "list",data:= .seq #[] c₀}:= λoI=>S7 oI hS;refine Sm (To (kdl_hint_dict (hm.push _).dictOf.typeIs ?_));have st:∀h2:S2,(∀b o,b≠S→s.heap.get? b=some o→h2.get? b=some o)→fu (Bh A B) h2:= λh2 hk b o e=>hk b o (λz=>by rw[z,qh hSb] at e;cases e) (vK Ab b o e);refine VC (λ_=> ?_) (λ_=>Sx ⟨YD Z6 _,key _ c₀ _ ⟨⟨⟨_,Tt _ rfl,rfl,rfl⟩,hm.push _⟩,st _ λb o _ e=>S7 _ e⟩ (λb o _ e=>S7 _ e) (RS _)⟩);refine Sm (VW ?_);refine Sm ?_;show Sq _ _ (updateSeq S (·.push .none)>>= λ_=>updateSeq S (·.pop)) _ _ _;refine Sm (Z7 (RS _) rfl ?_);have hS₂:=Ut (Uu (·.push Ti)) (RS {cls:= .type "dict_keyiterator",data:= .fields #[.ref d,.int 0 0,.int kvs.length 0,.int ep 0]}) rfl;refine Z7 (hz:=by seq_fits) (Ut (Uu (·.push Ti)) (RS _) rfl) rfl ?_;have hS₃:∀oI,((((s.heap.push oI).update S (Uu (·.push Ti))).update S (Uu (·.pop)))).get? S=some (Uu (·.pop) (Uu (·.push Ti) {cls:= .type "list",data:= .seq #[] c₀})):=
  λoI=>Ut _ (Ut (Uu (·.push Ti)) (RS oI) rfl) rfl
 have QC:∀oI b o,b≠S→(s.heap.push oI).get? b=some o→((((s.heap.push oI).update S (Uu (·.push Ti))).update S (Uu (·.pop)))).get? b=some o:= λoI b o hb e=>
  (UO _ _ (Tf hb)).trans ((UO _ _ (Tf hb)).trans e)
 refine Sx ⟨YD Z6 _,key _ _ _ ⟨⟨⟨_,QC _ _ _ (Tf hSI) (Tt _ rfl),rfl,rfl⟩,(hm.push _).at' λo e=>QC _ _ _ (Tf hSd) e⟩,st _ λb o hb e=>QC _ b o hb (S7 _ e)⟩
  (λb o hb e=>QC _ b o hb (S7 _ e)) (hS₃ _)⟩
theorem BL{d:So}{kvs:List (K×Value)}{ep:Nat}{Q:List Value→Sl→Prop}{X:Value→Sl→Prop}(H:zH A B)(Ab:fu B s.heap)(lo:(d==UX)=false)(hm:s.heap.DictAt knd d kvs ep)(hn:kvs.length≤Uc)
  (h:∀(h':S2) (tk:Nat) (acc:Array Value),(∀b o,s.heap.get? b=some o→h'.get? b=some o)→YB (λi v=> ∃k x,kvs[i]? =some (k,x)∧knd.is k v=true) acc kvs.length→Q acc.toList {s with heap:=h',toks:=tk}):
  Sq P.M A (collect (.ref d)) Q X s:=by
 have k9:=hm.lt_size;unfold collect;refine Sm (ZT (Yu entry_proto_collect' ?_));rw[Z8 PySem.F.plain_proto_collect _];show Sq _ A.in1 (Xw []>>= λl=>again (.builtin "list.__iadd__" ⟨[l,.ref d],[]⟩)) _ _ s;refine Sm (Vh ?_);refine Sx ⟨YD Z9 _,Yu entry_list_iadd' ?_⟩;rw[Z8 Z9 _];have RS:(s.heap.push {cls:= .type "list",data:= .seq ([]:List Value).toArray}).get? s.heap.objs.size=some {cls:= .type "list",data:= .seq #[]}:=Tt _ rfl;have Ab₁:fu B (s.heap.push {cls:= .type "list",data:= .seq ([]:List Value).toArray}):= λb o e=>S7 _ (Ab b o e);have hSh:s.heap.objs.size∉mK A:=by
  rcases H with H|⟨x,o,vs,H,hx,_⟩
  ·simp[mK,H]
  ·simp only[mK,H,Tp]
   intro z;exact absurd (z▸UG (Ab x o hx)) (V5 _)
 show Sq _ A.in1 (YC (.ref s.heap.objs.size) (.ref d) (.ref s.heap.objs.size)) _ _ _;have key:=EA (P:=P) (A:=A) (B:=B) (knd:=knd) (s:={s with heap:=s.heap.push {cls:= .type "list",data:= .seq ([]:List Value).toArray}})
  (R:= λ(q:U4) (s':Sl)=> ∃(h':S2) (tk:Nat) (acc':Array Value) (c':Nat),q=.ok (.ret (.ref s.heap.objs.size))∧s'={s with heap:=h',toks:=tk}∧
   (∀b o,s.heap.get? b=some o→h'.get? b=some o)∧h'.get? s.heap.objs.size=some {cls:= .type "list",dict:=none,data:= .seq acc' c',slots:= #[]}∧YB (λi v=> ∃k x,kvs[i]? =some (k,x)∧knd.is k v=true) acc' kvs.length)
  H Ab₁ lo (hm.push _) (Vt k9) hSh (fQ Ab (bU _)) (.ref s.heap.objs.size) RS hn
  (λh' tk acc' c' hk hS' Af=>⟨h',tk,acc',c',rfl,rfl,λb o e=>hk b o (T9 (UG e)) (S7 _ e),hS',Af⟩)
 refine Tq key (λfin s' x=> ?_) λe s' x=> ?_
 ·cases fin with
  |done f=>
   obtain⟨h',tk,acc',c',e,rfl,hk,hS',Af⟩:=x;cases e;show Sq _ A (load s.heap.objs.size>>=_) _ _ _;refine Sm (Xq hS' ?_);exact Sx (h h' tk acc' hk Af)
  |again c₁=>
   refine⟨x.1,Xx x.2 λq s₂ y=> ?_⟩;obtain⟨h',tk,acc',c',rfl,rfl,hk,hS',Af⟩:=y;show Sq _ A (load s.heap.objs.size>>=_) _ _ _;refine Sm (Xq hS' ?_);exact Sx (h h' tk acc' hk Af)
 ·obtain⟨_,_,_,_,e',_⟩:=x
  cases e'
theorem DW{d:So}{kvs:List (K×Value)}{Q:Value→Sl→Prop}{X:Value→Sl→Prop}(H:zH A B)(Ab:fu B s.heap)(lo:(d==UX)=false)(hm:s.heap.DictOf knd d kvs)(hn:kvs.length<64)(val:K→Int)(ae5:∀k v,knd.is k v=true→∃t,v=.int (val k) t)
  (h:∀(x:So) (h':S2) tk (out:Array Value) (ns:List Int),s.heap.get? x=none→(∀b o,s.heap.get? b=some o→h'.get? b=some o)→h'.PlainList x out→VG out.toList ns→ns.Perm (kvs.map λp=>val p.1)→ns.Pairwise (· ≤ ·)→Q (.ref x) {s with heap:=h',toks:=tk}):
  Sq P.M A (call (.builtin "sorted") [.ref d]) Q X s:=by
 obtain⟨ep,hat⟩:=hm.dictAt;refine call_function_entry kind_sorted plain_sorted entry_sorted (args_sorted1 _) ?_;unfold Builtin.«sorted»;refine Sm (m:=checkCount "sorted" 1 1 _) (Sx ?_);refine Sm (BL (P:=P) (A:=A.in1) (B:=B) H Ab lo hat (SG (Tv hn) (by decide)) λh' tk acc hk Af=> ?_);have hl:acc.toList.length=kvs.length:=by rw[UY];exact Af.1
 have hI:VG acc.toList (kvs.map λp=>val p.1):=by refine AV (by rw[hl,Sy]) λi v hv=> ?_;obtain⟨k,x,hx,PZ⟩:=Af.2 i v (by rw[←U0];exact hv);obtain⟨t,rfl⟩:=ae5 k v PZ;exact⟨_,t,rfl,by rw[Tz,hx];rfl⟩
 refine Sm (wpAny_newList ?_ (by rw[hl];exact SG (Tv hn) (by decide)));have hoL:(h'.push (Vi "list" acc.toList.toArray 0)).get? h'.objs.size=some (Vi "list" acc.toList.toArray 0):=Tt _ rfl;refine Sm (To (V4 slot_list_sort ⟨_,hoL,rfl⟩ entry_list_sort (list_sort_tree (vs:=acc.toList) hoL hI (by rw[hl];exact hn) λout ns' a1 a2 a3=>⟨_,rfl,?_⟩) (args_list_sort _)));have hx:s.heap.get? h'.objs.size=none:=iV hk (bU _);have hL:=nP (vs:=acc.toList) (out:=out) hoL;refine Sx ⟨_,rfl,h _ _ tk out ns' hx (λb o e=>hL.2 b o (λz=>by rw[z,hx] at e;cases e) (S7 _ (hk b o e))) hL.1 a1 a2 a3⟩
end
section
variable{b:Bx}{A:S3}{ω:Wd}{Q:Value→Sl→Prop}{X:Value→Sl→Prop}
theorem eF.abh{vs:List V}:∀{ps:List Value} {is:List Int},eF ω vs ps→cT.jx vs=some is→VG ps is:=by
 induction vs with
 |nil=>exactλ{ps is} h e=>by rw[show ps=[] from h];cases e;exact .nil
 |cons v vs ih=>exactλ{ps is} h e=>match ps,h with
  |p::ps,h=>aD e λi e1 e=>dm e λr e2 ei=>by obtain⟨t,ht⟩:=h.1.int e1;rw[ht,ei];exact .cons _ _ (ih h.2 e2)
theorem vP{ps:List Value}{is:List Int}(h:VG ps is):eF ω (is.map .int) ps:=by
 induction h with
 |nil=>exact rfl
 |cons k t r ih=>exact⟨⟨t,rfl⟩,ih⟩
theorem pT(x:Int)(l:List Int):(b8 x l).Perm (x::l):=by
 induction l with
 |nil=>exact .refl _
 |cons y l ih=>
  unfold b8;by_cases c:x≤y
  ·rw[aG c]
  ·rw[aJ c];exact(ih.cons y).trans (aqQ x y l)
theorem qU(l:List Int):(aB l).Perm l:=by
 induction l with
 |nil=>exact .refl _
 |cons x l ih=>exact(pT x _).trans (ih.cons x)
theorem uR(x:Int){l:List Int}(h:l.Pairwise (· ≤ ·)):(b8 x l).Pairwise (· ≤ ·):=by
 induction l with
 |nil=>exact .cons (λ_ h=>nomatch h) .nil
 |cons y l ih=>
  obtain⟨h1,h2⟩:=Vk.mp h;unfold b8;by_cases c:x≤y
  ·rw[aG c];exact .cons (λz hz=>(SO.mp hz).elim (λe=>e▸c) λhz=>TX c (h1 z hz)) h
  ·rw[aJ c]
   exact .cons (λz hz=>(SO.mp ((pT x l).mem_iff.mp hz)).elim (λe=>e▸UQ (Xy.mp c)) (h1 z)) (ih h2)
theorem wj(l:List Int):(aB l).Pairwise (· ≤ ·):=by
 induction l with
 |nil=>exact .nil
 |cons x l ih=>exact uR x ih
theorem vL{a b:List Int}(hp:a.Perm b)(hs:a.Pairwise (· ≤ ·)):a=aB b:=
 aqR (λx y _ _ h1 h2=>aoQ h1 h2) hs (wj b) (hp.trans (qU b).symm)
theorem Pw{es:List (V×V)}:∀{kvs:List (Int×Value)} {is:List Int},m6 ω (KK.dec .int) es kvs→jx (es.map (·.1))=some is→kvs.map (·.1)=is:=by
 induction es with
 |nil=>exactλ{kvs is} h e=>by rw[show kvs=[] from h];exact SN e
 |cons p es ih=>exactλ{kvs is} h e=>match kvs,h with
  |q::kvs,h=>aD e λi e1 e=>dm e λr e2 ei=>by have:V.int q.1=.int i:=(show p.1=.int q.1 from h.1).symm.trans (V.r7 e1);rw[TV,ih h.2.2 e2,V.int.inj this,ei]
theorem R0{kvs:List (Int×Value)}{is:List Int}(h:kvs.map (·.1)=is)(h64:is.length<64):kvs.length<64:=by rw[←Sy (·.1),h];exact h64
theorem ye{is:List Int}(h:is.length<64):((aB is).map V.int).length≤ay:=by rw[Sy,(qU is).length_eq];exact SG (Tv h) (by decide)
theorem Dk{l:List V}{x:So}{xs:Array Value}{is:List Int}{r:V×ai}(R:b.bY ω)(L:lB ω x l xs)(e2:jx l=some is)(h64:is.length<64)(hr:(.ref ω.m.next,ω.m.push (.list ((aB is).map .int)))=r)(hQ:jd b W0 ω VR Q r.1 r.2):
  Sq b.P.M A (call (.builtin "sorted") [.ref x]) Q X ω.s:=by
 have hI:=L.aa.abh e2;have hp1:ω.h.IsList x xs.toList.toArray:=L.at_;refine sorted_ints hp1 hI (by rw[hI.length];exact h64) λout ns' a1 a2 a3=> ?_;have hsz:((ω.h.push (Vi "list" #[] 0)).update ω.h.objs.size (Uu (· ++xs.toList.toArray))).objs.size=ω.h.objs.size+1:=by rw[Heap.size_update,Uj]
 have hoL:((((ω.h.push (Vi "list" #[] 0)).update ω.h.objs.size (Uu (· ++xs.toList.toArray)))).push (Vi "list" xs.toList.toArray 0)).get? (ω.h.objs.size+1)=some (Vi "list" xs.toList.toArray 0):=by rw[←hsz];exact Tt _ rfl
 have hL:=nP (vs:=xs.toList) (out:=out) hoL;have hx:ω.h.get? (ω.h.objs.size+1)=none:=Vs (TM _);exact(hQ.wM hr).newList R (s':={ω.s with heap:=YA _ _ _ _}) ⟨λb o e=>hL.2 b o (λz=>no (hx.symm.trans (z▸e))) (S7 _ ((UO _ _ (λz=>absurd (UG e) (by rw[←z];exact V5 _))).trans (S7 _ e))),rfl⟩ hx hL.1 (vL a2 a3▸vP a1) (ye h64)
theorem Gy{v u:V}{m':ai}{pv:Value}(F:Jb b.P b.B)(H:zH A b.B)(R:b.bY ω)(hv:VR ω v pv)(e:eT v ω.m=.ok u m')(hQ:jd b W0 ω VR Q u m'):
  Sq b.P.M A (call (.builtin "sorted") [pv]) Q X ω.s:=
 aD e λa ea e=>aD e λo ho e=>aD e λl hl e=>aD e λis e2 e=>cK e λh64 hr=>by
  rw[(hv.ref ea).2];cases o with
  |list l'=>
   cases hl;obtain⟨xs,_,L⟩:=R.list ho;exact Dk (r:=(u,m')) R L e2 h64 hr.symm hQ
  |dict k es=>
   cases k with
   |int=>
    cases hl;obtain⟨kvs,D⟩:=R.dict ho;have hk:=Pw D.aa e2;have hlen:kvs.length<64:=R0 hk h64;refine DW (P:=b.P) (B:=b.B) (knd:=intKind b.P.prog b.P.w) H R.base (R.t6 F (ai.dg ho rfl)) D.at_ hlen id (λk v hv=>Value.isInt_shape hv) λx h' tk out ns hx PZ hL a1 a2 a3=> ?_;exact(hQ.wM (p:=(u,m')) hr.symm).newList R (cZ.of PZ) hx hL (vL (hk▸a2) a3▸vP a1) (ye h64)
   |_=>exact no hl
  |_=>exact no hl
end
end
section
theorem wg(slice:Su)(o i:Value):∃ops,subscripted slice false o i=operate ops (Xz o i):=by
 cases slice with
 |Slice _ _ st _=>cases st<;>exact⟨_,rfl⟩
 |_=>exact⟨_,rfl⟩
theorem xU{l:List V}{i:Int}{v:V}(e:bA l i=some v):∃j,WE i l.length=some j∧l[j]? =some v∧i.natAbs<ay:=by
 unfold bA at e;by_cases hs:ay≤i.natAbs
 ·exact no ((aG hs).symm.trans e)
 rw[aJ hs] at e;have q:=aoR hs;by_cases h0:0≤i
 ·rw[aG h0] at e
  refine⟨i.toNat,?_,e,q⟩;have k9:=(Vq.mp e).1;unfold WE;have:¬i<0:=U3.mpr h0;simp only[this,if_false];rw[aG (by simp;omega)]
 ·rw[aJ h0] at e
  by_cases h1:0≤i+l.length
  ·rw[aG h1] at e
   refine⟨(i+l.length).toNat,?_,e,q⟩;have k9:=(Vq.mp e).1;unfold WE;simp only[Xy.mp h0,if_true];rw[aG (by simp;omega)]
  ·exact no ((aJ h1).symm.trans e)
section
variable{P:PF}{A:S3}{s:Sl}{Q:Value→Sl→Prop}{X:Value→Sl→Prop}
theorem FE{value slice:Su}{o i:Value}{T id:String}(hT:s.TypeIs o T)(hl:YE (.type T) "__getitem__"=pure (some (.builtin id)))(hg:Sq P.M A (Xz o i) Q X s):
  Sq P.M A (XA value slice o i) Q X s:=by
 obtain⟨_,e⟩:=wg slice o i;exact tail_any hT hl hg e
theorem Ah{a:So}{items:Array Value}{k:Int}{t:Tok}{v:Value}{Q:Unit→Sl→Prop}(hl:s.heap.PlainList a items)(h0:0≤k)(hfit:k<2^63)(hn:k<items.size)
  (hQ:∀h',h'.PlainList a (items.setIfInBounds k.toNat v)→U5 a s.heap h'→Q () {s with heap:=h'}):Sq P.M A (WG (.ref a) (.int k t) v) Q X s:=by
 obtain⟨n,ho⟩:=id hl;have hl':=hl.isList;unfold WG
 try with_reducible refine To ?_
 first|refine Sm (Sx ?_)|skip
 refine Sm (wpAny_sequenceKey hl'.typeIs (by decide) ?_);refine Sm (WC (name:=SH "__setitem__") hl'.typeIs aoS
  (V4 aoS hl'.typeIs entry_list_setitem ?_ (args_list_setitem _ _ _)))
 show Sq _ _ (aqS (.int k t)>>=_) _ _ s;refine Sm (wpAny_listSubscript_int (fitsIndex_of h0 hfit) ?_);clear hfit;obtain⟨j,rfl⟩:=WH h0;have hj:j<items.size:=by omega
 show Sq _ _ ((seqItemAt a j>>= λr=>pure (r.map (j,·)))>>=_) _ _ s;refine Sm (Sm (wpAny_seqItemAt ho rfl (Sx ?_)));rw[VY hj];show Sq _ _ (setSeqItemAt a j v>>=_) _ _ s;have e:Uu (·.setIfInBounds j v) {cls:= .type "list",data:= .seq items n}={cls:= .type "list",data:= .seq (items.setIfInBounds j v) (if(items.setIfInBounds j v).size=items.size then n else n+1)}:=by simp[Uu]
 have ag2:(s.heap.update a (Uu (·.setIfInBounds j v))).PlainList a (items.setIfInBounds j v):=
  ⟨_,(Ut _ ho (by rw[e];rfl)).trans (bk some e)⟩
 refine Sm (wpAny_setSeqItemAt ho rfl ?_)
 first
  |exact Sm (Sx (Sx ⟨.none,rfl,Sx (hQ _ ag2 (U1 ..))⟩))
  |exact Sx ⟨.none,rfl,Sx (hQ _ ag2 (U1 ..))⟩
theorem JK{x:So}{xs:Array Value}{k:Int}{t:Tok}{j:Nat}{pv:Value}(hl:s.heap.IsList x xs)(h1:WE k xs.size=some j)(h3:k.natAbs<2^62)(hx:xs[j]? =some pv)(h:Q pv s):Sq P.M A (Xz (.ref x) (.int k t)) Q X s:=by
 unfold WE at h1;by_cases hk:k<0
 ·simp only[hk,if_true] at h1
  obtain⟨h6,h1⟩:=oV h1;simp only[Vr,decide_eq_true_eq] at h6;cases h1;exact wpAny_getItem_list_neg hl hk (by omega) (by omega) hx h
 ·simp only[hk,if_false] at h1
  obtain⟨h6,h1⟩:=oV h1;cases h1;exact wpAny_getItem_list hl (by omega) (by omega) hx h
end
section
variable{b:Bx}{A:S3}{ω:Wd}{Q:Value→Sl→Prop}{X:Value→Sl→Prop}
theorem nK.some{v:V}{x:Option V}{px:Option Value}(h:nK ω x px)(e:x=YF v):∃pv,px=YF pv∧VR ω v pv:=by rw[e] at h;exact h
theorem O0{k:Int}(h:k.natAbs<ay):k.natAbs<2^62:=SM h (by decide)
theorem vj{o i v:V}{po pi:Value}(R:b.bY ω)(ho:VR ω o po)(hi:VR ω i pi)(e:item o i ω.m=some v)
  (hQ:∀tk pv,VR ω v pv→Q pv {ω.s with toks:=tk}):(∃T id,ω.s.TypeIs po T∧YE (.type T) "__getitem__"=pure (some (.builtin id)))∧Sq b.P.M A (Xz po pi) Q X ω.s:=by
 delta item at e
 cases o with
 |bJ l=>
  refine aD e λk e1 e=> ?_;obtain⟨t,rfl⟩:=hi.int e1;obtain⟨a,xs,rfl,ht,hs⟩:=ho;obtain⟨j,h1,h2,h3⟩:=xU e;obtain⟨pv,h4,h5⟩:=hs.get h2;have h3:=O0 h3;exact⟨⟨_,_,ht.typeIs,slot_tuple_getitem.lookup⟩,aqT ht (by omega) (by omega) ((jN hs)▸h1) (by rw[←U0];exact h4) (hQ ω.s.toks pv h5)⟩
 |bytes p=>
  refine aD e λk e1 e=> ?_;obtain⟨u,rfl⟩:=hi.int e1;obtain⟨t,rfl⟩:=ho;obtain⟨hk,e⟩:=oV e;refine dm e λx hx ev=> ?_;have k9:=(Vq.mp hx).1;have h3:p.length<2^31:=SM hk.2 (by decide);have q:=hQ (ω.s.toks+1) (.int (p.getD k.toNat 0).toNat ω.s.toks) (by rw[show p.getD k.toNat 0=x by rw[U7,hx];rfl,ev];exact⟨_,rfl⟩)
  exact⟨⟨_,_,YG ω.s _ t,YH.lookup⟩,getItem_bytes (by omega) hk.1 (by omega) q⟩
 |ref a=>
  refine aD e λob CM e=> ?_;rw[ho.2];cases ob with
  |list l=>
   refine aD e λk e1 e=> ?_;obtain⟨t,rfl⟩:=hi.int e1;obtain⟨j,h1,h2,h3⟩:=xU e;obtain⟨xs,_,L⟩:=R.list CM;obtain⟨pv,h4,h5⟩:=L.aa.get h2;exact⟨⟨_,_,L.at_.typeIs,aoT.lookup⟩,JK L.at_ (L.size▸h1) (O0 h3) (by rw[←U0];exact h4) (hQ ω.s.toks pv h5)⟩
  |dict k es=>
   obtain⟨hk,e⟩:=oV e;obtain⟨kvs,D⟩:=R.dict CM;obtain⟨κ,h1,h2,_⟩:=KK.key (P:=b.P) k hi hk;obtain⟨pv,h4,h5⟩:=(D.aa.look h2).some e;exact⟨⟨_,_,D.at_.typeIs,slot_dict_getitem.lookup⟩,wpAny_getItem_of h1 D.at_.mapOf h4 (hQ _ pv h5)⟩
  |_=>exact no e
 |_=>exact no e
theorem NZ{value slice:Su}{o i v:V}{po pi:Value}(R:b.bY ω)(ho:VR ω o po)(hi:VR ω i pi)(e:item o i ω.m=some v)
  (hQ:∀tk pv,VR ω v pv→Q pv {ω.s with toks:=tk}):Sq b.P.M A (XA value slice po pi) Q X ω.s:=by
 obtain⟨⟨T,id,h1,h2⟩,h⟩:=vj R ho hi e hQ;exact FE h1 h2 h
theorem Ar{a:Nat}{l l':List V}{xs':Array Value}{s':Sl}(R:b.bY ω)(ha:ω.m.get a=some (.list l))(hl:s'.heap.PlainList (ω.σ.r a) xs')(hs:U5 (ω.σ.r a) ω.h s'.heap)(hr:lR ω.s s')(hsz:l'.length≤ay)(hv:Le ω (ω.pD a (.list l') s')→eF (ω.pD a (.list l') s') l' xs'.toList):
  b.bY (ω.pD a (.list l') s')∧fZ W0 ω (ω.pD a (.list l') s'):=
 R.turn (ai.dg ha rfl) rfl (.inl rfl) hs.extBut hr λL=>⟨(R.obj a _ ha).1,⟨xs',hl,hv L⟩,hsz⟩
theorem AZ{a:Nat}{k:KK}{es es':List (V×V)}{aei:List (k.T×Value)}{s':Sl}(R:b.bY ω)(ha:ω.m.get a=some (.dict k es))(hd:s'.heap.DictOf (k.knd b.P) (ω.σ.r a) aei)(hs:U5 (ω.σ.r a) ω.h s'.heap)(hr:lR ω.s s')(hsz:es'.length≤ay)(hv:Le ω (ω.pD a (.dict k es') s')→m6 (ω.pD a (.dict k es') s') k.dec es' aei):
  b.bY (ω.pD a (.dict k es') s')∧fZ W0 ω (ω.pD a (.dict k es') s'):=
 R.turn (ai.dg ha rfl) rfl (.inl rfl) hs.extBut hr λL=>⟨(R.obj a _ ha).1,⟨aei,hd,hv L⟩,hsz⟩
theorem vC{Q:Unit→Sl→Prop}{o i v:V}{m':ai}{po pi pv:Value}(R:b.bY ω)(ho:VR ω o po)(hi:VR ω i pi)(hv:VR ω v pv)(e:cT.setItem o i v ω.m=.ok () m')
  (hQ:jd b W0 ω (λ_ _ _=>True) Q () m'):Sq b.P.M A (WG po pi pv) Q X ω.s:=
 aD e λa ea e=>aD e λob CM e=>dm e λob' e hr=>by
  have hQ:=hQ.wM (p:=((),m')) hr.symm;rw[(ho.ref ea).2];cases ob with
  |list l=>
   refine aD e λk e1 e=>cK e λhk he=> ?_;obtain⟨t,rfl⟩:=hi.int e1;obtain⟨xs,p1,L⟩:=R.list CM;have k9:k<xs.size:=by rw[L.size];omega
   refine Ah (P:=b.P) p1 hk.1 (VI k9 L.big) k9 λh' hl' ue=> ?_;rw[he] at hQ;exact hQ.turn (Ar R CM hl' ue rfl (by rw[Wx];exact L.small) λLe=>by rw[Array.toList_setIfInBounds];exact(L.aa.bg Le).set (hv.bg Le) _) λ_=>trivial
  |dict k es=>
   refine cK e λhk he=> ?_;obtain⟨kvs,D⟩:=R.dict CM;obtain⟨κ,h1,h2,_⟩:=KK.key (P:=b.P) k hi hk.1;refine wpAny_setItem_pairs (hsz:=D.line) h1 D.at_ λh' D' ue=> ?_;rw[he] at hQ;exact hQ.turn (AZ R CM D' ue rfl (SG (oO _ _ _) hk.2) λLe=>(D.aa.bg Le).bR h2 (hv.bg Le) D.Dw) λ_=>trivial
  |_=>exact no e
theorem GL{o v u:V}{m':ai}{po pv:Value}(R:b.bY ω)(ho:VR ω o po)(hv:VR ω v pv)(e:za o v ω.m=.ok u m')(hQ:jd b W0 ω VR Q u m'):Sq b.P.M A (call (.builtin "list.append") [po,pv]) Q X ω.s:=
 aD e λa ea e=>aD e λl hl e=>cK e λhsz hr=>by have hQ:=hQ.wM (p:=(u,m')) hr.symm;rw[(ho.ref ea).2];obtain⟨xs,p1,L⟩:=R.list (ai.fG hl);exact aoU (hsz:=L.line) p1 λh' hl' ue=>hQ.turn (Ar R (ai.fG hl) hl' ue rfl (by rw[S4];exact hsz) λLe=>by rw[aoV];exact eF.append (show eF _ [v] [pv] from⟨hv.bg Le,rfl⟩) (L.aa.bg Le)) λ_=>rfl
theorem MM{o k u:V}{m':ai}{po pk:Value}(R:b.bY ω)(ho:VR ω o po)(hk:VR ω k pk)(e:Ri o k ω.m=.ok u m')(hQ:jd b W0 ω VR Q u m'):Sq b.P.M A (call (.builtin "dict.pop") [po,pk]) Q X ω.s:=
 aD e λa ea e=>aD e λp hp e=>by obtain⟨e1,e⟩:=oV e;refine dm e λv e2 hr=> ?_;have hQ:=hQ.wM (p:=(u,m')) hr.symm;rw[(ho.ref ea).2];have hm:=ai.qv (k:=p.1) (es:=p.2) hp;obtain⟨kvs,D⟩:=R.dict hm;obtain⟨κ,h1,h2,hpart⟩:=KK.key (P:=b.P) p.1 hk e1;obtain⟨pv,h4,h5⟩:=(D.aa.look h2).some e2;exact aoW aoX D.at_.typeIs PySem.F.entry_dict_pop (PySem.F.args_dict_pop_2 _ _) (meets_dict_pop_there _ _ h1 [] (.inl rfl) hpart) ⟨kvs,pv,D.at_,D.line,h4,λh' hmm hs=>hQ.turn (AZ R hm hmm hs rfl (SG (WI _ _) D.small) λLe=>(D.aa.bg Le).drop h2) λE=>h5.bg (E.PB R)⟩
theorem M9{o k d u:V}{po pk pd:Value}(F:Jb b.P b.B)(R:b.bY ω)(ho:VR ω o po)(hk:VR ω k pk)(hd:VR ω d pd)(e:afX o k d ω.m=some u)
  (hQ:∀tk pv,VR ω u pv→Q pv {ω.s with toks:=tk}):Sq b.P.M A (call (.builtin "dict.get") [po,pk,pd]) Q X ω.s:=
 aD e λa ea e=>aD e λp hp e=>cK e λe1 ev=>by
  rw[(ho.ref ea).2];have hm:=ai.qv (k:=p.1) (es:=p.2) hp;obtain⟨kvs,D⟩:=R.dict hm;obtain⟨κ,h1,h2,hpart⟩:=KK.key (P:=b.P) p.1 hk e1;refine aoW aoY D.at_.typeIs PySem.F.entry_dict_get (PySem.F.args_dict_get_3 _ _ _) (meets_dict_get_default _ _ h1 (R.t6 F (ai.dg hm rfl)) pd) ⟨_,D.at_.mapOf,hQ _ _ ?_⟩;have h3:=D.aa.look h2;cases q:look k p.2 with
  |none=>rw[q] at h3 ev;rw[show Xn kvs κ=none from h3,ev];exact hd
  |some v=>rw[q] at h3 ev;obtain⟨pv,h4,h5⟩:=h3;rw[h4,ev];exact h5
theorem aax{v:V}{pv:Value}{k:Nat}(F:Jb b.P b.B)(R:b.bY ω)(hv:VR ω v pv)(e:aa5 v ω.m=some k)(hQ:∀tk t,Q (.int k t) {ω.s with toks:=tk}):
  Sq b.P.M A (call (.builtin "len") [pv]) Q X ω.s:=by
 have q:=hQ (ω.s.toks+1+1) (ω.s.toks+1);cases v with
 |bytes p=>
  refine cK e λh ek=> ?_;obtain⟨t,rfl⟩:=hv;exact len_bytes (Tv (SM h (by decide))) (by rw[ek] at hQ;exact hQ _ _)
 |bJ l=>
  refine cK e λh ek=> ?_;obtain⟨a,xs,rfl,ht,hs⟩:=hv;rw[ek,←jN hs] at q;exact aqU ht (F0 ((jN hs).symm▸Tv h)) q
 |ref a=>
  refine aD e λob CM e=> ?_;rw[hv.2];cases ob with
  |list l=>
   obtain⟨xs,_,L⟩:=R.list CM;rw[←SN e,←L.size] at q;exact call_len_list L.at_ L.big q
  |dict k' es=>
   obtain⟨kvs,D⟩:=R.dict CM;rw[←SN e,D.aa.length] at q;exact call_len_dict (R.t6 F (ai.dg CM rfl)) D.at_ (F0 (D.aa.length▸D.small)) q
  |_=>exact no e
 |_=>exact no e
theorem n9{v:V}{pv:Value}{l:List V}(R:b.bY ω)(hv:VR ω v pv)(e:uC v ω.m=some l):∃x xs,pv=.ref x∧lB ω x l xs:=
 aD e λa ea e=>by obtain⟨xs,_,L⟩:=R.list (ai.fG e);exact⟨_,xs,(hv.ref ea).2,L⟩
theorem EI{v u:V}{pv:Value}(R:b.bY ω)(hv:VR ω v pv)(e:cT.IX v ω.m=some u)(hQ:jd b W0 ω VR Q u ω.m):
  Sq b.P.M A (call (.type "tuple") [pv]) Q X ω.s:=
 dm e λl el ev=>by obtain⟨x,xs,rfl,L⟩:=n9 R hv el;refine call_tuple_list (hsz:=L.line) L.at_ λh' hk=> ?_;have G:cZ ω.s {ω.s with heap:=h'.push {cls:= .type "tuple",data:= .seq xs}}:=cZ.of λb o e=>S7 _ (hk b o e);exact hQ.BW R G (ev.symm▸⟨_,xs,rfl,⟨_,Tt _ rfl,rfl,0,rfl⟩,L.aa.bg G.le⟩)
theorem Fc{v u:V}{pv:Value}(hh:A.handled=none)(R:b.bY ω)(hv:VR ω v pv)(e:cT.wW v ω.m=some u)(hQ:jd b W0 ω VR Q u ω.m):
  Sq b.P.M A (call (.type "bytes") [pv]) Q X ω.s:=
 aD e λl el e=>aD e λis hi e=>cK e λe1 ev=>by
  obtain⟨x,xs,rfl,L⟩:=n9 R hv el;refine call_bytes_ints (vs:=xs.toList) L.at_ (L.aa.abh hi) (λn hn=> ?_) (by rw[UY];exact L.line) hh λh' t k hk=> ?_
  ·have q:=S9.mp e1 n hn
   rw[Vr,decide_eq_true_iff,decide_eq_true_iff] at q;exact q
  ·have:byteArr is=(is.map λi=>TS i.toNat).toArray:=by
    unfold byteArr
    first|rfl|simp
   exact hQ.BW R (cZ.of hk) (ev.symm▸⟨t,bk (aoZ · t) this⟩)
theorem E7{vs:List V}:∀{ps:List Value} {bs:List Bool},eF ω vs ps→bools vs=some bs→ps=bs.map ao0:=by
 induction vs with
 |nil=>exactλ{ps bs} h e=>by rw[show ps=[] from h];cases e;rfl
 |cons v vs ih=>exactλ{ps bs} h e=>match ps,h with
  |p::ps,h=>aD e λi e1 e=>dm e λr e2 ei=>by have q:=h.1;rw[V.xr e1] at q;rw[ei,ih h.2 e2,show p=ao0 i from q];rfl
theorem v8(bs:List Bool):(Sw bs.length).all (λi=>bs.getD i false)=bs.all id:=by
 rw[Xl,S9,S9];constructor
 ·intro hx b hb
  obtain⟨i,hi,rfl⟩:=ZS hb;have:=hx i (UM.mpr hi)
  rwa [U7,S6 hi] at this
 ·intro hx i hi
  have hi:=UM.mp hi;rw[U7,S6 hi];exact hx _ (Vf hi)
theorem Lm{v u:V}{pv:Value}(H:zH A b.B)(R:b.bY ω)(hv:VR ω v pv)(e:abA v ω.m=some u)(hQ:jd b W0 ω VR Q u ω.m):
  Sq b.P.M A (call (.builtin "all") [pv]) Q X ω.s:=
 aD e λl el e=>dm e λbs e1 ev=>by
  obtain⟨x,xs,rfl,L⟩:=n9 R hv el;have hbs:=E7 L.aa e1;have hsz:xs.size=bs.length:=by rw[←UY,hbs,Sy]
  have hax:x<ω.h.objs.size:=by obtain⟨o,ho,_⟩:=L.at_;exact UG ho
  refine call_all_walk (ao1 L.at_ ?_);have bI:b.B ω.h.objs.size=none:=fQ R.base (bU _);refine⟨ω.h.objs.size,_,[ω.h.objs.size],xs.size,_,_,λi=>bs.getD i false,rfl,Lh (P:=b.P) (A:=A.in1) (B:=b.B) H ω.h.objs.size x (T9 hax) bI xs,
   ⟨⟨⟨_,Tt _ rfl,rfl,rfl⟩,L.at_.push _⟩,vK λb o e=>S7 _ (R.base b o e)⟩,?_,λh' tk hk=> ?_⟩
  ·intro i v s' Q' E' hv hq
   rw[←U0,hbs,Tz] at hv;refine dm hv λb hb ev=> ?_;have:v=.bool (bs.getD i false):=by rw[ev,U7,hb];rfl
   subst this;exact Yo (by simpa using hq)
  ·rw[hsz,v8]
   exact hQ.BW R (cZ.of λb o e=>hk b o (by rw[Tp];exact T9 (UG e)) (S7 _ e)) (ev.symm▸rfl)
theorem abq{u v:V}{pu pv:Value}(hu:VR ω u pu)(hv:VR ω v pv){i j:Int}(e1:u.fk=some i)(e2:v.fk=some j):∃t t',pu=.int i t∧pv=.int j t':=by obtain⟨t,h1⟩:=hu.int e1;obtain⟨t',h2⟩:=hv.int e2;exact⟨t,t',h1,h2⟩
theorem LV{x y u:V}{pa pb:Value}(hh:A.handled=none)(R:b.bY ω)(ha:VR ω x pa)(hb:VR ω y pb)(e:ahZ x y=some u)(hQ:jd b W0 ω VR Q u ω.m):
  Sq b.P.M A (call (.builtin "max") [pa,pb]) Q X ω.s:=
 aD e λi e1 e=>dm e λj e2 ev=>by
  obtain⟨t,t',rfl,rfl⟩:=abq ha hb e1 e2;refine max_two_ints hh λh' tk hk=>hQ.BW R (cZ.of hk) (ev.symm▸ ?_);by_cases c:i<j
  ·rw[aG c,aG c];exact⟨_,rfl⟩
  ·rw[aJ c,aJ c];exact⟨_,rfl⟩
theorem BI{i:Int}(h: -(2^34)<i)(h':i<2^34):YI i=true:=Sn.mpr ⟨aC (UQ (VI (by decide) h)),aC (VI h' (by decide))⟩
theorem vF{a b:Int}(ha:a.natAbs<2^32)(hb:b.natAbs<2^32):Yl a b 1=true:=by
 have e:aqV a b 1=((b-a).toNat:Int):=ao2 a b;obtain⟨a1,a2⟩:=BB ha;obtain⟨b1,b2⟩:=BB hb;have n1:((b-a).toNat:Int)<2^34:=by omega
 unfold Yl;rw[e];have fb:=BI (VI (by decide) b1) (VI b2 (by decide));have l:(if(1:Int)>0 then YI (b+(1-1)) else YI (b+(1+1)))=true:=(aG (by decide)).trans (by rw[show b+(1-1)=b from ao3 b];exact fb);rw[l,BI (VI (by decide) a1) (VI a2 (by decide)),fb,BI (i:=1) (by decide) (by decide),BI (V6 (by decide) (Tw (b-a).toNat)) n1,UR];rfl
theorem Kp{x y u:V}{pa pb:Value}(R:b.bY ω)(ha:VR ω x pa)(hb:VR ω y pb)(e:qG x y=some u)(hQ:jd b W0 ω VR Q u ω.m):
  Sq b.P.M A (call (.type "range") [pa,pb]) Q X ω.s:=
 aD e λi e1 e=>aD e λj e2 e=>cK e λh ev=>by obtain⟨t,t',rfl,rfl⟩:=abq ha hb e1 e2;exact call_range_2 (hQ.BW R (cZ.push _) (ev.symm▸⟨_,_,_,_,rfl,Tt _ rfl,vF h.1 h.2⟩))
theorem FL{y u:V}{pb:Value}(R:b.bY ω)(hb:VR ω y pb)(e:qG (.int 0) y=some u)(hQ:jd b W0 ω VR Q u ω.m):
  Sq b.P.M A (call (.type "range") [pb]) Q X ω.s:=
 aD e λi e1 e=>aD e λj e2 e=>cK e λh ev=>by cases e1;obtain⟨t',rfl⟩:=hb.int e2;exact call_range_1 (hQ.BW R (cZ.push _) (ev.symm▸⟨_,_,_,_,rfl,Tt _ rfl,vF h.1 h.2⟩))
end
end
section
theorem ac1{α:Type}(l:List α)(a b:Nat):cut l a b=(l.drop a).take (b-a):=by unfold cut;rw[List.drop_take]
theorem Cc{α:Type}(l:List α)(lo hi:Option Int):qN l lo hi=(l.drop (lo.elim 0 (V7 l.length))).take (hi.elim l.length (V7 l.length)-lo.elim 0 (V7 l.length)):=by unfold qN;rw[ac1]
theorem Po{α:Type}(l:List α)(lo hi:Option Int):(qN l lo hi).length≤l.length:=by rw[Cc,YJ,Vu];exact SG (Nat.min_le_right _ _) (V8 _ _)
section
variable{b:Bx}{A:S3}{ω:Wd}{Q:Value→Sl→Prop}{X:Value→Sl→Prop}
theorem xT{value slice:Su}{l:List V}{x:So}{xs:Array Value}{vl vu:Value}{sl:So}{lo hi:Option Int}{r:V×ai}(R:b.bY ω)(L:lB ω x l xs)(hs:ω.h.IsSliceOf sl vl vu .none)(pl:WJ vl lo)(pu:WJ vu hi)
  (hr:(.ref ω.m.next,ω.m.push (.list (qN l lo hi)))=r) (hQ:jd b W0 ω VR Q r.1 r.2):Sq b.P.M A (XA value slice (.ref x) (.ref sl)) Q X ω.s:=by
 refine FE L.at_.typeIs aoT.lookup ?_;refine wpAny_getItem_list_slice (hsz:=L.line) L.at_ hs pl pu .none (λe=>nomatch e) ?_
 have e:slicePick xs lo hi none=((xs.toList.drop (lo.elim 0 (V7 xs.size))).take (hi.elim xs.size (V7 xs.size)-lo.elim 0 (V7 xs.size))).toArray:=by unfold slicePick;rw[sliceBounds_plain];simp only[sliceRange_one,pick_run]
 refine(hQ.wM hr).newList R (cZ.push (tk:=ω.s.toks) _) (bU _) ⟨0,Tt _ rfl⟩ ?_ (SG (Po _ _ _) L.small);rw[e,Cc,L.size];exact eF.take _ (eF.drop _ L.aa)
theorem Kc{value slice:Su}{o u:V}{m':ai}{po vl vu:Value}{sl:So}{lo hi:Option Int}(R:b.bY ω)(ho:VR ω o po)(hs:ω.h.IsSliceOf sl vl vu .none)(pl:WJ vl lo)(pu:WJ vu hi)
  (e:iw o lo hi ω.m=.ok u m') (hQ:jd b W0 ω VR Q u m'):Sq b.P.M A (XA value slice po (.ref sl)) Q X ω.s:=by
 delta iw at e
 cases o with
 |bytes p=>
  refine cK e λhsz hr=> ?_;obtain⟨t,rfl⟩:=ho;refine FE (YG _ _ _) YH.lookup ?_;refine getItem_meets (YG _ _ _) (by decide) YH FB.entry_bytes_getitem (FB.args_bytes_getitem_2 _ _) (KBc.meets_slice2 p.toArray t _ pl pu)
   ⟨hs,SG (KBc.size_picked_le _ lo hi) (By hsz),λt' k=> ?_⟩
  have e:KBy.picked p.toArray lo hi=(qN p lo hi).toArray:=by rw[KBc.picked_eq,Cc];rfl
  exact(hQ.wM (p:=(u,m')) hr.symm).toks R k ⟨t',bk (aoZ · t') e⟩
 |ref a=>
  refine aD e λob CM e=>dm e λl e hr=> ?_;rw[ho.2];cases ob with
  |list l'=>
   obtain⟨xs,_,L⟩:=R.list CM;exact xT (r:=(u,m')) R L hs pl pu (by rw[hr,←SN e]) hQ
  |bare l'=>
   obtain⟨xs,L⟩:=R.bare CM;exact xT (r:=(u,m')) R L hs pl pu (by rw[hr,←SN e]) hQ
  |_=>exact no e
 |_=>exact no e
theorem EW{vs:List V}{ps:List Value}{u:V}{m':ai}(R:b.bY ω)(hv:eF ω vs ps)(e:cT.newList vs ω.m=.ok u m')(hQ:jd b W0 ω VR Q u m'):Sq b.P.M A (Xw ps) Q X ω.s:=
 cK e λhsz hr=>Vh ((hQ.wM (p:=(u,m')) hr.symm).newList (xs:=ps.toArray) R (cZ.push (tk:=ω.s.toks) _) (bU _) ⟨0,Tt _ rfl⟩ hv (Tv hsz))
  (by show ps.toArray.size≤Uc;rw[YK,←hv.length];exact By hsz)
theorem Bv{vs:List V}{ps:List Value}(R:b.bY ω)(hv:eF ω vs ps)(hsz:ps.length≤Uc)(hQ:jd b W0 ω VR Q (.bJ vs) ω.m):Sq b.P.M A (PySem.newTuple ps) Q X ω.s:=
 Vh (hQ.BW R (cZ.push (tk:=ω.s.toks) _) ⟨_,ps.toArray,rfl,⟨_,Tt _ rfl,rfl,0,rfl⟩,hv.bg (cZ.push (tk:=ω.s.toks) _).le⟩) (by show ps.toArray.size≤Uc;rw[YK];exact hsz)
theorem zA{P:PF}(k:KK)(h:S2):(h.push {cls:= .type "dict",data:= .dict #[]}).DictOf (k.knd P) h.objs.size []:=
 ⟨_,#[],0,Tt _ rfl,⟨rfl,rfl,rfl⟩,rfl,λe he=>absurd he (ao4 e),.nil,Vl⟩
theorem ko.dict{P:PF}{k:KK}{es:List (V×V)}{kvs:List (k.T×Value)}{x:So}{s':Sl}(hd:s'.heap.DictOf (k.knd P) x kvs)(hv:m6 (ω.at s') k.dec es kvs)(hsz:es.length≤ay):ko P (ω.add (.dict k es) x x s') ω.n (.dict k es):=
 ⟨(Loc.tM ω.σ ω.n x x).trans (Loc.add_r ω.σ ω.n x x).symm,⟨kvs,(Loc.add_r ω.σ ω.n x x).symm▸hd,hv.bg (Wd.GH (ω:=ω.at s') λb o e _=>e)⟩,hsz⟩
theorem LK{k:KK}{pos:SE}{env:SY}(R:b.bY ω)(hQ:jd b W0 ω VR Q (.ref ω.m.next) (ω.m.push (.dict k []))):Sq b.P.M A (eval (.Dict [] [] pos) env) Q X ω.s:=
 wpAny_Dict_empty (hQ.fresh (R.alloc (cZ.push (tk:=ω.s.toks) _) (bU _) (bU _) (ko.dict (kvs:=[]) (zA k _) rfl (Um _))))
theorem uN{a:Nat}{l':List V}{pl:SJ Bool}{Q:Value×List Value→Sl→Prop}(R:b.bY ω)(e:ω.m.get a=some (.list l'))(h:Q (.builtin "list.append",[.ref (ω.σ.r a)]) ω.s):Sq b.P.M A (WK (.ref (ω.σ.r a)) "append" pl) Q X ω.s:=by obtain⟨xs,p1,_⟩:=R.list e;exact ao5 p1.isList.typeIs PySem.F.plainAttrs_list slot_list_append PySem.F.type_list_append (λb hb=>by cases hb;obtain⟨n,hn⟩:=p1;exact⟨_,hn,rfl⟩) h
theorem p6{a:Nat}{k:KK}{es:List (V×V)}{name:Sv}{id:String}{pl:SJ Bool}{Q:Value×List Value→Sl→Prop}(slot:Slot "dict" name id)(hty:typeOf (.builtin id)=pure (.type "method_descriptor"))
  (R:b.bY ω) (e:ω.m.get a=some (.dict k es)) (h:Q (.builtin id,[.ref (ω.σ.r a)]) ω.s):Sq b.P.M A (WK (.ref (ω.σ.r a)) name pl) Q X ω.s:=by
 obtain⟨kvs,D⟩:=R.dict e;exact ao5 D.at_.typeIs PySem.F.plainAttrs_dict slot hty D.at_.mapOf.noDict h
end
structure CF(P:PF):Prop where
 data:∀c x,c.ok=true→x.ok=true→c.pZ x=false→TP P.K (.ref (P.ca c)) x.str=some none
 BZ:∀c x f,c.ok=true→c.BZ x=some f→TP P.K (.ref (P.ca c)) x.str=some (some (.ref (P.fa f)))
 cd:∀c,c.ok=true→∃cd,clsIn P.K (P.ca c)=some cd∧cd.hasDict=true∧XC cd.mro=true
 ga:∀c,c.ok=true→TP P.K (.ref (P.ca c)) "__getattribute__"=some (some (.builtin "object.__getattribute__"))
 sa:∀c,c.ok=true→TP P.K (.ref (P.ca c)) "__setattr__"=some (some (.builtin "object.__setattr__"))
 gt:∀c,c.ok=true→TP P.K (.ref (P.ca c)) "__getattr__"=some none
 CQ:∀c,c.ok=true→TP P.K (.ref (P.ca c)) "__init__"=some (some (.ref (P.fa c.CQ)))
 Mf:∀c,c.ok=true→YL P.K (P.ca c)=true
 inj:∀x y:At,x.ok=true→y.ok=true→x.str=y.str→x=y
theorem AI{iL:Array Vd}{e:Nat}(hs:Ww iL)(x:Sv):lookIn x {cls:= .type "dict",data:= .dict iL e}=some (Uh iL x):=by
 unfold lookIn Uh findBy;dsimp only;rw[←Array.find?_toList]
 split
 ·rename_i en he
  have:ao6 (λe:Vd=>e.key.isStr x) iL.toList=some en:=he;rw[this];rfl
 ·rename_i he
  have h0:ao6 (λe:Vd=>e.key.isStr x) iL.toList=none:=he;have:iL.toList.any (·.refKey)=false:=by rw[XD];intro en hen;obtain⟨k,t,hk⟩:=hs en (Array.mem_toList_iff.mp hen);simp[YM,hk]
  rw[aJ (by rw[this];exact Tc),h0];rfl
theorem DT{iL:Array Vd}{ep:Nat}{name:Sv}{hsh:Int}{t:Tok}{v:Value}(hs:Ww iL)(o:SK):∃uU ep',XE name hsh (.str name t) v {o with data:= .dict iL ep}={o with data:= .dict uU ep'}∧Ww uU∧
  uU.size=(if(Uh iL name).isSome then iL.size else iL.size+1)∧∀x,Uh uU x=if x=name then some v else Uh iL x:=by
 simp only[Obj.putName_eq,Obj.putNameByArray];cases hi:iL.findIdx? (·.key.isStr name) with
 |some i=>
  refine⟨_,ep,rfl,hs.modify _ _,?_,λx=>findBy_modify (λn v=>v.isStr n) Value.isStr_inj iL name x v i hi⟩;have:(Uh iL name).isSome=true:=by
   unfold Uh;rw[ao7];have:iL.findIdx? (λe=>(λ(n:Sv) (v:Value)=>v.isStr n) name e.key)=some i:=hi;rw[this];dsimp only;have k9:i<iL.size:=by have:=Array.findIdx?_eq_some_iff_findIdx_eq.mp hi;exact this.1
   rw[VY k9];rfl
  rw[this,aG rfl,Array.size_modify]
 |none=>
  refine⟨_,ep+1,rfl,hs.push _ _ _ _,?_,λx=>findBy_push (λn v=>v.isStr n) iL name x _ _ v (λy=> ?_) hi⟩
  ·have:(Uh iL name).isSome=false:=by
    unfold Uh;rw[ao7];have:iL.findIdx? (λe=>(λ(n:Sv) (v:Value)=>v.isStr n) name e.key)=none:=hi;rw[this];rfl
   rw[this,Array.size_push];rfl
  ·show(name==y)=decide (y=name)
   by_cases c:y=name
   ·subst c;simp
   ·have:¬name=y:= λe=>c e.symm
    simp[c,this]
section
variable{P:PF}{b:Bx}{A:S3}{ω:Wd}{Q:Value→Sl→Prop}{X:Value→Sl→Prop}
theorem bY.inst(R:b.bY ω){a:Nat}{c:jn}{fs:List (At×V)}(e:ω.m.get a=some (.inst c fs)):∃iL ep,Iw ω (ω.σ.d a) fs iL ep∧
  InstAt ω.h (ω.σ.r a) (VA (b.P.ca c) (ω.σ.d a)) (b.P.ca c) (some {cls:= .type "dict",data:= .dict iL ep})∧fs.length≤100∧c.ok=true:=by
 obtain⟨h1,⟨iL,ep,h2⟩,h6⟩:=R.obj a _ e;exact⟨iL,ep,h2,⟨h1,rfl,rfl,h2.get⟩,h6⟩
theorem VR.adJ{v:V}{pv:Value}(h:VR ω v pv):handedIn pv=true:=by
 cases v with
 |af=>exact h.elim
 |int i=>obtain⟨_,rfl⟩:=h;rfl
 |str k=>obtain⟨_,_,rfl⟩:=h;rfl
 |bytes k=>obtain⟨_,rfl⟩:=h;rfl
 |bJ l=>obtain⟨_,_,rfl,_⟩:=h;rfl
 |range a b=>obtain⟨_,_,_,_,rfl,_⟩:=h;rfl
 |ref a=>rw[h.2];rfl
 |_=>rw[show pv=_ from h];rfl
theorem EX{x:At}{o v:V}{po:Value}(F:Jb b.P b.B)(C:CF b.P)(hx:x.ok=true)(R:b.bY ω)(ho:VR ω o po)(e:uY x o ω.m=some v)
  (hQ:∀tk pv,VR ω v pv→Q pv {ω.s with toks:=tk}):Sq b.P.M A (getAttr po x.str true) Q X ω.s:=
 aD e λa ea e=>aD e λp hp e=>by
  rw[(ho.ref ea).2];have hm:=ai.of_inst (c:=p.1) (fs:=p.2) hp;obtain⟨iL,ep,D,I,_,hc⟩:=R.inst hm;cases hd:p.1.pZ x with
  |true=>rw[aG hd] at e;exact no e
  |false=>
   rw[aJ (by rw[hd];exact Tc)] at e;obtain⟨pv,h8,h7⟩:=(D.val x hx).some e;obtain⟨cd,k1,k2,k3⟩:=C.cd p.1 hc;refine get_value (v:=pv) (F.Mn _ R.base) I (C.ga p.1 hc) ?_ h7.adJ (hQ _ pv h7);unfold findObj;rw[k1,XG,C.data p.1 x hc hx hd,XG];dsimp only[XG];unfold W.ownOf;rw[k2,aG rfl];dsimp only;rw[AI D.keys,h8];rfl
theorem yM(x:At)(v:V)(y:At)(fs:List (At×V)):(iU x v fs).lookup y=if y=x then some v else fs.lookup y:=by
 induction fs with
 |nil=>
  unfold iU;by_cases c:y=x
  ·rw[aG c,c,List.lookup_cons_self]
  ·rw[aJ c,Tj,beq_eq_false_iff_ne.mpr c]
 |cons p fs ih=>
  obtain⟨k,u⟩:=p;unfold iU;by_cases c:k=x
  ·rw[aG c,Tj,Tj,←c]
   cases hb:y==k with
   |true=>rw[aG (beq_iff_eq.mp hb)]
   |false=>rw[aJ (beq_eq_false_iff_ne.mp hb)]
  ·rw[aJ c,Tj,Tj,ih]
   cases hb:y==k with
   |true=>exact(aJ (λz=>c ((beq_iff_eq.mp hb).symm.trans z))).symm
   |false=>rfl
theorem p8(x:At)(v:V)(fs:List (At×V)):(iU x v fs).length=if(fs.lookup x).isSome then fs.length else fs.length+1:=by
 induction fs with
 |nil=>rfl
 |cons p fs ih=>
  obtain⟨k,u⟩:=p;unfold iU;rw[Tj];by_cases c:k=x
  ·rw[aG c,c,beq_self_eq_true];rfl
  ·rw[aJ c,Va,ih,beq_eq_false_iff_ne.mpr (Tf c)]
   cases(fs.lookup x).isSome<;>rfl
theorem KJ{x:At}{v:V}{pv:Value}{a:Nat}{c:jn}{fs:List (At×V)}{s':Sl}{iL uU:Array Vd}{ep ep':Nat}(C:CF b.P)(hx:x.ok=true)(D:Iw ω (ω.σ.d a) fs iL ep)(L:Le ω (ω.pD a (.inst c (iU x v fs)) s'))(hv:VR ω v pv)
  (h1:s'.heap.get? (ω.σ.d a)=some {cls:= .type "dict",data:= .dict uU ep'}) (h2:Ww uU) (h3:uU.size=(if(Uh iL x.str).isSome then iL.size else iL.size+1)) (h4:∀y,Uh uU y=if y=x.str then some pv else Uh iL y):Iw (ω.pD a (.inst c (iU x v fs)) s') (ω.σ.d a) (iU x v fs) uU ep' where
 get:=h1
 keys:=h2
 size:=by
  rw[h3,p8,←(D.val x hx).isSome];cases(Uh iL x.str).isSome
  ·exact TZ D.size
  ·exact D.size
 val y hy:=by
  rw[h4,yM];by_cases c:y=x
  ·rw[aG c,aG (bk At.str c)];exact⟨pv,rfl,hv.bg L⟩
  ·rw[aJ c,aJ (λz=>c (C.inj _ _ hy hx z))];exact(D.val y hy).bg L
theorem vp{x:At}{o v:V}{m':ai}{po pv:Value}{Q:Unit→Sl→Prop}(F:Jb b.P b.B)(C:CF b.P)(hx:x.ok=true)(R:b.bY ω)(ho:VR ω o po)(hv:VR ω v pv)
  (e:cT.setAttr x o v ω.m=.ok () m') (hQ:jd b W0 ω (λ_ _ _=>True) Q () m'):Sq b.P.M A (PySem.setAttr po x.str pv) Q X ω.s:=
 aD e λa ea e=>aD e λp hp e=>cK e λhc hr=>by
  have hQ:=hQ.wM (p:=((),m')) hr.symm;rw[(ho.ref ea).2];have hm:=ai.of_inst (c:=p.1) (fs:=p.2) hp;obtain⟨iL,ep,D,I,_,hcl⟩:=R.inst hm;have K:=F.Mn _ R.base;obtain⟨cd,k1,k2,k3⟩:=C.cd p.1 hcl;have hcd:(clsIn b.P.K (b.P.ca p.1)).any (λcd=>XC cd.mro)=true:=by rw[k1];exact k3
  have tk:takerIn b.P.K (b.P.ca p.1) x.str=some none:=by unfold takerIn;rw[C.data p.1 x hcl hx hc.2];rfl
  refine set_plain K I (C.sa p.1 hcl) (osa_open (s:={ω.s with toks:=ω.s.toks+1}) K I hcd tk λ_=> ?_);obtain⟨hxo,Lo,hn,-⟩:=I;have hne:ω.σ.r a≠ω.σ.d a:= λz=>by rw[z] at hxo;cases hxo.symm.trans D.get
  refine Sm (Sx (Sm (Sm (YN hxo (Sm ((show Looks _ ({ω.s with toks:=ω.s.toks+1}:Sl).heap (classData _) cd from looks_clsIn K k1).here ?_))))));rw[k2];refine Sx (a:=some (ω.σ.d a)) (Sm (Sx (Sm ?_)));obtain⟨uU,ep',p1,p2,p3,p4⟩:=DT (ep:=ep) (name:=x.str) (hsh:=XH _ x.str) (t:=ω.s.toks+1) (v:=pv) D.keys {cls:= .type "dict",data:= .plain};unfold nsSet;refine Sm (Sm (ao8 (Sx (Sm (ao9 (Sm (YN D.get ?_)))))));dsimp only;have K2:iL.any (·.refKey)=false:=by rw[apa];intro e he;obtain⟨k,t,hk⟩:=D.keys e he;rw[YM,hk];exact Tc
  rw[apb,show(!iL.any (·.key.isStr x.str)&&iL.any (·.refKey))=false by rw[K2,V9]];refine apc D.get ?_;have D':=(Ut _ D.get (by rw[p1];rfl)).trans (bk some p1);refine Sm (wpAny_lookBehind D' (pastItsLine_dict (by rw[p3];have:=D.size;have:=hc.1;rw[sizeLine_eq];split<;>omega)) ?_)
  refine Sx ?_;have hs:=U1 ω.h (ω.σ.d a) (XE x.str (XH b.P.w.params x.str) (.str x.str (ω.s.toks+1)) pv);refine hQ.turn (R.turn (ai.dg hm rfl) rfl (.inr rfl) hs.extBut rfl λL=>⟨?_,⟨uU,ep',KJ C hx D L hv D' p2 p3 p4⟩,?_,hcl⟩) λ_=>trivial
  ·exact hs.extBut _ _ hne hxo
  ·rw[p8];have:=hc.1;split<;>omega
theorem z3{x:At}{c:jn}{f:Fn}{a:Nat}{fs:List (At×V)}{pl:SJ Bool}{Q:Value×List Value→Sl→Prop}(F:Jb b.P b.B)(C:CF b.P)(hx:x.ok=true)(R:b.bY ω)(e:ω.m.get a=some (.inst c fs))(hn:fs.lookup x=none)(hm:c.BZ x=some f)
  (hf:typeIn b.P.K (.ref (b.P.fa f))=some (.type "function")) (h:Q (.ref (b.P.fa f),[.ref (ω.σ.r a)]) ω.s):Sq b.P.M A (WK (.ref (ω.σ.r a)) x.str pl) Q X ω.s:=by
 obtain⟨iL,ep,D,I,_,hc⟩:=R.inst e;refine method_fn (F.Mn _ R.base) I (C.ga c hc) (C.gt c hc) (C.BZ c x f hc hm) hf ?_ h;unfold shadowIn;dsimp only;rw[AI D.keys];have:=D.val x hx;rw[hn] at this;rw[show Uh iL x.str=none from this];rfl
end
end
section
noncomputable def Bi.name:Bi→String
 |.len=>"len"|.sorted=>"sorted"|.range=>"range"|.max=>"max"|.bytes=>"bytes"|.tuple=>"tuple"|.all=>"all"
noncomputable def Me.name:Me→String
 |.append=>"append"|.get=>"get"|.pop=>"pop"
structure GF(P:PF):Prop where
 dI:∀g:Gl,g.ok=true→∃t,Ub P.K TG (SH g.name)=some (some (.int g.val t))
 cls:∀c:jn,c.ok=true→Ub P.K TG (SH c.name)=some (some (.ref (P.ca c)))
 fn:∀f:Fn,f.ok=true→f.top=true→Ub P.K TG (SH f.qual)=some (some (.ref (P.fa f)))
 bi:∀p∈bis,Ub P.K TG p.1=some none
 fnT:∀f:Fn,f.ok=true→typeIn P.K (.ref (P.fa f))=some (.type "function")
 fnK:∀f:Fn,f.ok=true→WL P.K (.ref (P.fa f))=true
 aj3:∀c:jn,c.ok=true→WL P.K (.ref (P.ca c))=true
structure BOk(b:Bx):Prop where
 fb:Jb b.P b.B
 hd:zH b.A b.B
 fr:b.A.frames=some b.l
 cf:CF b.P
 gf:GF b.P
def kj(b:Bx)(q:Bool)(f:Fn)(vs:List V)(m:ai)(p:K V):Prop:= ∀ω f7,ω.m=m→(b.A.handled=none∨q=true)→b.bY ω→yy b ω→eF ω vs f7→
 ∀Q X,cP b W0 ω VR p Q X→UP b.P.M b.A (.call (.ref (b.P.fa f)) ⟨f7,[]⟩) (λr s'=>match r with|.ok (.ret v)=>Q v s'|.ok _=>False|.error e=>X e s') ω.s
noncomputable abbrev Bx.new(b:Bx)(args:Wa):Bx:={b with A:=b.A.under (.builtin "type.__call__" args)}
structure Cx.Ok(c:Cx):Prop where
 b:BOk c.b
 kind:c.env.scope.kind=.function
 dI:c.env.globals=TG
 bi:c.env.builtins=builtinsNs
 units:c.b.A.units+1000<TJ
 quiet:c.b.A.handled=none∨c.q=true
theorem Cx.Ok.agk{c:Cx}(ok:c.Ok):c.b.A.units+100<TJ:=Sz (VE (by decide) _) ok.units
structure Cx.St(c:Cx)(aa:List V)(ω:Wd):Prop where
 bH:c.b.bY ω
 lX:aX c aa ω
 zD:yy c.b ω
theorem Cx.St.ext{c:Cx}{aa:List V}{ω ω':Wd}(s:c.St aa ω)(X:fZ W0 ω ω')(R:c.b.bY ω'):c.St aa ω':=⟨R,s.lX.ext s.bH X,s.zD.ext X⟩
def Ev(c:Cx)(aa:List V)(pe:Su)(p:Sc→ai→K V):Prop:= ∀sc ω,c.St aa ω→Bo c.b W0 ω VR (eval pe c.env) (p sc ω.m)
def Tr(c:Cx)(aa:List V)(pe:Su)(p:Sc→ai→K Bool):Prop:= ∀sc ω,c.St aa ω→Bo c.b W0 ω (λ_ (v:Bool) pv=>pv=v) (isTrue pe c.env (eval pe c.env)) (p sc ω.m)
def NF(c:Cx)(aa:List V)(l:List Su)(p:Sc→ai→K (List V)):Prop:= ∀pos sc ω,c.St aa ω→Bo c.b W0 ω (λω vs ps=>eF ω vs ps∧ps.length=l.length) (YO (U8 pos (UH l c.env))) (p sc ω.m)
noncomputable def dS(p:Sc→ai→K V)(sc:Sc)(m:ai):K Bool:= λk kx=>p sc m (λv sc m=>ask An.qi (truthy v m) sc λb sc=>k b sc m) kx
section
variable{α β γ δ:Type}{c:Cx}{aa:List V}{ω:Wd}{Q:γ→Sl→Prop}{X:Value→Sl→Prop}{rl:Wd→α→γ→Prop}{rm:Wd→β→δ→Prop}
theorem Bo.step{t:SJ δ}{p:K β}{f:β→Sc→ai→K α}{C:δ→Sl→Prop}(h:Bo c.b W0 ω rm t p)(st:c.St aa ω)(w:cP c.b W0 ω rl (λk kx=>p (λv sc m=>f v sc m k kx) kx) Q X)
  (k:∀ω₁ v sc pv,c.St aa ω₁→Le ω ω₁→rm ω₁ v pv→cP c.b W0 ω₁ rl (f v sc ω₁.m) Q X→C pv ω₁.s):Sq c.b.P.M c.b.A t C X ω.s:=
 h.bind w .none λω₁ v sc pv R E r w₁=>k ω₁ v sc pv (st.ext E R) (E.PB st.bH) r w₁
theorem jd.of{v:α}{sc:Sc}{m':ai}(w:cP c.b W0 ω rl (λk _=>k v sc m') Q X):jd c.b W0 ω rl Q v m':= λω' e R E pv r=>w.fin ω' e R E r
theorem cP.val{Q:Value→Sl→Prop}{v:V}{sc:Sc}(w:cP c.b W0 ω VR (λk _=>k v sc ω.m) Q X)(st:c.St aa ω)(tk:Nat){pv:Value}(r:VR ω v pv):Q pv {ω.s with toks:=tk}:=
 (jd.of w).toks st.bH tk (r.bg (cZ.le (ω:=ω) (s':={ω.s with toks:=tk}) ⟨λ_ _ e=>e,rfl⟩))
theorem ab1{op:Op}{pa pb:Su}{pos:SE}{xa xb:Sc→ai→K V}(ha:Ev c aa pa xa)(hb:Ev c aa pb xb):
  Ev c aa (.BinOp pa (nN op) pb pos) (λsc m k kx=>xa sc m (λx sc m=>xb sc m (λy sc m=>abX op x y m sc k) kx) kx):= λsc ω st Q X w=>
 wpAny_BinOp ((ha sc ω st).step st w λω₁ v gU pv cj L₁ r₁ w₁=>(hb gU ω₁ cj).step cj w₁ λω₂ u wH pu qO L₂ r₂ w₂=>by obtain⟨y,m',fz,e,w₃⟩:=w₂.out (g:= λv sc m k _=>k v sc m) λk=>Qn;exact Lf qO.bH (r₁.bg L₂) r₂ e (.of w₃))
theorem abO(ok:c.Ok){op:Cop}{pa pb:Su}{pos:SE}{xa xb:Sc→ai→K V}(hm:behindInMarks (N8 op) pb=false)(ha:Ev c aa pa xa)(hb:Ev c aa pb xb):
  Ev c aa (.Compare pa [N8 op] [pb] pos) (λsc m k kx=>xa sc m (λx sc m=>xb sc m (λy sc m=>ask An.qi (op.run x y m) sc λr sc=>k (.bool r) sc m) kx) kx):= λsc ω st Q X w=>
 YQ (hm:=hm) ((ha sc ω st).step st w λω₁ v gU pv cj L₁ r₁ w₁=>(hb gU ω₁ cj).step cj w₁ λω₂ u wH pu qO L₂ r₂ w₂=>by obtain⟨y,fz,e,w₃⟩:=w₂.ask (g:= λr sc k _=>k (V.bool r) sc ω₂.m);exact Qt qO.bH ok.b.fb ok.agk (r₁.bg L₂) r₂ e λtk=>w₃.val qO tk rfl)
theorem acm{pa:Su}{pos:SE}{xa:Sc→ai→K V}(ha:Ev c aa pa xa):Ev c aa (.UnaryOp .Not pa pos) (λsc m k kx=>xa sc m (λx sc m=>ask An.qi (truthy x m) sc λr sc=>k (.bool (!r)) sc m) kx):= λsc ω st Q X w=>
 UnaryOp_ ((ha sc ω st).step st w λω₁ v gU pv cj L₁ r₁ w₁=>by obtain⟨y,fz,e,w₂⟩:=w₁.ask (g:= λr sc k _=>k (V.bool (!r)) sc ω₁.m);exact not_of (r9 cj.bH r₁ e λtk=>w₂.val cj tk rfl))
theorem abW{pa:Su}{pos:SE}{xa:Sc→ai→K V}(ha:Ev c aa pa xa):Ev c aa (.UnaryOp .USub pa pos) (λsc m k kx=>xa sc m (λx sc m=>gp x.fk (λi sc=>k (.int (-i)) sc m) sc) kx):= λsc ω st Q X w=>
 UnaryOp_ ((ha sc ω st).step st w λω₁ v gU pv cj L₁ r₁ w₁=>by obtain⟨i,fz,e,w₂⟩:=w₁.gp (g:= λi sc k _=>k (V.int (-i)) sc ω₁.m);obtain⟨t,rfl⟩:=r₁.int e;exact PySem.P.neg_int (w₂.val cj (ω₁.s.toks+1) ⟨ω₁.s.toks,rfl⟩))
theorem Bb{v:V}{pv:Value}{sc:Sc}{Q:Bool→Sl→Prop}(st:c.St aa ω)(r:VR ω v pv)(w:cP c.b W0 ω (λ_ (v:Bool) pv=>pv=v) (λk _=>ask An.qi (truthy v ω.m) sc λb sc=>k b sc ω.m) Q X):Sq c.b.P.M c.b.A (V2 pv) Q X ω.s:=by obtain⟨y,fz,e,w⟩:=w.ask (g:= λb sc k _=>k b sc ω.m);exact r9 st.bH r e λtk=>(jd.of w).toks st.bH tk rfl
theorem Mb{pe:Su}{x:Sc→ai→K V}(h:Ev c aa pe x)(he:∀whole,isTrue pe c.env whole=(do let v←whole;WM pe.pos;US [v] (V2 v))):Tr c aa pe (dS x):= λsc ω st Q X w=>
 isTrue_plain (he:=he _) ((h sc ω st).step (f:= λv sc m k _=>ask An.qi (truthy v m) sc λb sc=>k b sc m) st w λω₁ v gU pv cj L₁ r₁ w₁=>Bb cj r₁ w₁)
theorem G6{l:Su}{o:WA}{r:Su}{pos:SE}{x:Sc→ai→K V}(h:Ev c aa (.Compare l [o] [r] pos) x):Tr c aa (.Compare l [o] [r] pos) (dS x):= λsc ω st Q X w=>by
 have e:isTrue (.Compare l [o] [r] pos) c.env (eval (.Compare l [o] [r] pos) c.env)=(do let v←eval (.Compare l [o] [r] pos) c.env;US [v] (V2 v)):=by rw[isTrue_Compare1,eval_Compare1];simp only[bind_assoc]
 rw[e];exact Sm ((h sc ω st).step (f:= λv sc m k _=>ask An.qi (truthy v m) sc λb sc=>k b sc m) st w λω₁ v gU pv cj L₁ r₁ w₁=>To (Bb cj r₁ w₁))
theorem KR{α:Type}{p:An→Option α}{x:Option α}{sc:Sc}{k k':α→Sc→Prop}(h:∀v sc,x=some v→k v sc=k' v sc):ask p x sc k=ask p x sc k':=by
 have n:∀sc,gp x k sc=gp x k' sc:= λsc=>by
  cases x with
  |none=>rfl
  |some v=>exact h v sc rfl
 match sc with
 |[]=>exact n _
 |(n'+1,a)::sc=>exact n _
 |(0,a)::sc=>
  show(match p a with|some v=>x=some v∧k v sc|none=>False)=match p a with|some v=>x=some v∧k' v sc|none=>False
  cases p a with
  |none=>rfl
  |some v=>exact propext ⟨λq=>⟨q.1,h v sc q.1▸q.2⟩,λq=>⟨q.1,(h v sc q.1).symm▸q.2⟩⟩
theorem acT{pa:Su}{pos:SE}{x:Sc→ai→K V}(h:Tr c aa pa (dS x)):Tr c aa (.UnaryOp .Not pa pos) (dS λsc m k kx=>x sc m (λx sc m=>ask An.qi (truthy x m) sc λr sc=>k (.bool (!r)) sc m) kx):= λsc ω st Q X w=>
 isTrue_not ((h sc ω st).step (f:= λr sc m k _=>ask An.qi (truthy (.bool (!r)) m) sc λb sc=>k b sc m) st w λω₁ v gU pv cj L₁ r₁ w₁=>by obtain⟨y,fz,e,w₂⟩:=w₁.ask (g:= λb sc k _=>k b sc ω₁.m);cases e;subst r₁;exact w₂.here cj.bH rfl)
theorem adm{pc pt pe:Su}{pos:SE}{xc xt xe:Sc→ai→K V}(hc:Tr c aa pc (dS xc))(ht:Ev c aa pt xt)(he:Ev c aa pe xe):
  Ev c aa (.IfExp pc pt pe pos) (λsc m k kx=>xc sc m (λx sc m=>ask An.qi (truthy x m) sc λr sc=>two r (xt sc m k kx) (xe sc m k kx)) kx):= λsc ω st Q X w=>
 IfExp_ ((hc sc ω st).step (f:= λr sc m k kx=>two r (xt sc m k kx) (xe sc m k kx)) st w λω₁ v gU pv cj L₁ r₁ w₁=>by
  subst r₁;cases pv
  ·exact he gU ω₁ cj Q X w₁
  ·exact ht gU ω₁ cj Q X w₁)
theorem acj{pc pt pe:Su}{pos:SE}{xc xt xe:Sc→ai→K V}(hc:Tr c aa pc (dS xc))(ht:Tr c aa pt (dS xt))(he:Tr c aa pe (dS xe)):
  Tr c aa (.IfExp pc pt pe pos) (dS λsc m k kx=>xc sc m (λx sc m=>ask An.qi (truthy x m) sc λr sc=>two r (xt sc m k kx) (xe sc m k kx)) kx):= λsc ω st Q X w=>
 isTrue_IfExp ((hc sc ω st).step (f:= λr sc m k kx=>two r (dS xt sc m k kx) (dS xe sc m k kx)) st w λω₁ v gU pv cj L₁ r₁ w₁=>by
  subst r₁;cases pv
  ·exact he gU ω₁ cj Q X w₁
  ·exact ht gU ω₁ cj Q X w₁)
noncomputable def Rz(q:Bool)(x y:Sc→ai→K V)(sc:Sc)(m:ai):K V:= λk kx=>x sc m (λx sc m=>ask An.qi (truthy x m) sc λr sc=>match q with
 |true=>two r (y sc m k kx) (k x sc m)
 |false=>two r (k x sc m) (y sc m k kx)) kx
noncomputable def pA:Bool→BoolOp|true=> .And|false=> .Or
theorem Du{q:Bool}{e e₂:Su}{rest:List Su}{pos:SE}{x y:Sc→ai→K V}(he:Ev c aa e x)(hr:Ev c aa (.BoolOp (pA q) (e₂::rest) pos) y):
  Ev c aa (.BoolOp (pA q) (e::e₂::rest) pos) (Rz q x y):= λsc ω st Q X w=>by
 have key:Sq c.b.P.M c.b.A (eval e c.env) (λv s=>Sq c.b.P.M c.b.A (V2 v) (λb s=>if b=q then Sq c.b.P.M c.b.A (eval (.BoolOp (pA q) (e₂::rest) pos) c.env) Q X s else Q v s) X s) X ω.s:=
  (he sc ω st).step st w λω₁ v gU pv cj L₁ r₁ w₁=>by
   obtain⟨y',fz,e',w₂⟩:=w₁.ask (g:= λr sc k kx=>match q with|true=>two r (y sc ω₁.m k kx) (k v sc ω₁.m)|false=>two r (k v sc ω₁.m) (y sc ω₁.m k kx))
   refine r9 cj.bH r₁ e' λtk=> ?_;have G:cZ ω₁.s {ω₁.s with toks:=tk}:=⟨λ_ _ e=>e,rfl⟩;have qO:=cj.ext (G.ext) (G.bH cj.bH);have w₃:=w₂.at G.ext qO.bH .none;have r₂:=r₁.bg G.le;cases q<;>cases y'
   ·exact hr fz _ qO Q X w₃
   ·exact w₃.here qO.bH r₂
   ·exact w₃.here qO.bH r₂
   ·exact hr fz _ qO Q X w₃
 cases q
 ·exact BoolOp_or (Tq key (λv s h=>Tq h (λb s h=>by cases b<;>exact h) λ_ _ h=>h) λ_ _ h=>h)
 ·exact BoolOp_and (Tq key (λv s h=>Tq h (λb s h=>by cases b<;>exact h) λ_ _ h=>h) λ_ _ h=>h)
theorem FN(q:Bool)(x y:Sc→ai→K V)(sc:Sc)(m:ai):dS (Rz q x y) sc m= λk kx=>dS x sc m (λr sc m=>match q with
  |true=>two r (dS y sc m k kx) (ask An.qi (some r) sc λb sc=>k b sc m)
  |false=>two r (ask An.qi (some r) sc λb sc=>k b sc m) (dS y sc m k kx)) kx:=by
 funext k kx
 refine bk (λz=>x sc m z kx) (funext λv=>funext λsc=>funext λm=>KR λr sc e=> ?_);cases q<;>cases r<;>first|rfl|(show ask An.qi (truthy v m) sc _=_;rw[e];rfl)
theorem Im{q:Bool}{rest:List Su}{pos:SE}{whole:SJ Value}{r:Bool}{Q:Bool→Sl→Prop}{s:Sl}{M:Vp}{A:S3}
  (h:if r=q then Sq M A (isTrue (.BoolOp (pA q) rest pos) c.env whole) Q X s else Q r s):match q with|true=>(if r then Sq M A (isTrue (.BoolOp .And rest pos) c.env whole) Q X s else Q false s)|false=>(if r then Q true s else Sq M A (isTrue (.BoolOp .Or rest pos) c.env whole) Q X s):=by
 cases q<;>cases r<;>exact h
theorem yK{q:Bool}{e:Su}{rest:List Su}{pos:SE}{whole:SJ Value}{Q:Bool→Sl→Prop}{s:Sl}{M:Vp}{A:S3}
  (h:Sq M A (isTrue e c.env (eval e c.env)) (λr s=>if r=q then Sq M A (isTrue (.BoolOp (pA q) rest pos) c.env whole) Q X s else Q r s) X s):Sq M A (isTrue (.BoolOp (pA q) (e::rest) pos) c.env whole) Q X s:=by
 cases q
 ·exact isTrue_or (Tq h (λr s h=>Im (c:=c) (q:=false) h) λ_ _ h=>h)
 ·exact isTrue_and (Tq h (λr s h=>Im (c:=c) (q:=true) h) λ_ _ h=>h)
theorem G8{q:Bool}{e:Su}{pos:SE}{x:Sc→ai→K Bool}(he:Tr c aa e x):Tr c aa (.BoolOp (pA q) [e] pos) x:= λsc ω st Q X w=>
 yK ((he sc ω st).step (f:= λr sc m k _=>k r sc m) st w λω₁ v gU pv cj L₁ r₁ w₁=>by
  have h:=w₁.here cj.bH r₁;by_cases e:pv=q
  ·rw[aG e];subst e
   cases pv
   ·exact isTrue_or_nil h
   ·exact isTrue_and_nil h
  ·rw[aJ e];exact h)
theorem Eh{q:Bool}{e:Su}{rest:List Su}{pos:SE}{x y:Sc→ai→K V}(he:Tr c aa e (dS x))(hr:Tr c aa (.BoolOp (pA q) rest pos) (dS y)):
  Tr c aa (.BoolOp (pA q) (e::rest) pos) (dS (Rz q x y)):= λsc ω st Q X w=>by
 rw[FN] at w;refine yK ((he sc ω st).step st w λω₁ v gU pv cj L₁ r₁ w₁=> ?_);subst r₁;have fin:∀{g:K Bool},g=(λk _=>ask An.qi (some pv) gU λb sc=>k b sc ω₁.m)→cP c.b W0 ω₁ (λ_ (v:Bool) pv=>pv=v) g Q X→Q pv ω₁.s:= λe w=>by subst e;obtain⟨y,fz,e,w⟩:=w.ask (g:= λb sc k _=>k b sc ω₁.m);cases e;exact w.here cj.bH rfl
 cases q<;>cases pv
 ·exact hr gU ω₁ cj Q X w₁
 ·exact fin rfl w₁
 ·exact fin rfl w₁
 ·exact hr gU ω₁ cj Q X w₁
end
end
section
section
variable{α β γ δ:Type}{c:Cx}{aa:List V}{ω:Wd}{Q:γ→Sl→Prop}{X:Value→Sl→Prop}
noncomputable def iD:Su→Bool
 |.Call (.Name _ _) [] [] _=>false
 |_=>true
theorem kH{o:Su}(h:iD o=true)(attr:Sv)(env:SY)(whole:SJ Value):attributeBase o attr env whole=whole:=by
 cases o with
 |Call f a k p=>
  cases f with
  |Name x q=>cases a with
   |nil=>cases k with
    |nil=>exact gg h
    |cons _ _=>rfl
   |cons _ _=>rfl
  |_=>rfl
 |_=>rfl
theorem Il{v:V}{pv:Value}(r:VR ω v pv):plainIs pv .none=true∧(pv==Ti)=v.isNone:=by
 cases v with
 |af=>exact r.elim
 |none=>rw[show pv=_ from r];exact⟨rfl,rfl⟩
 |int i=>obtain⟨_,rfl⟩:=r;exact⟨rfl,rfl⟩
 |str k=>obtain⟨_,_,rfl⟩:=r;exact⟨rfl,rfl⟩
 |bytes k=>obtain⟨_,rfl⟩:=r;exact⟨rfl,rfl⟩
 |bJ l=>obtain⟨_,_,rfl,_⟩:=r;exact⟨rfl,rfl⟩
 |range a b=>obtain⟨_,_,_,_,rfl,_⟩:=r;exact⟨rfl,rfl⟩
 |ref a=>rw[r.2];exact⟨rfl,rfl⟩
 |bool b=>rw[show pv=_ from r];exact⟨rfl,rfl⟩
theorem BG{pa:Su}{k:Nat}{p pos:SE}{xa:Sc→ai→K V}(ha:Ev c aa pa xa):Ev c aa (.Compare pa [.IsNot] [.Constant .none k p] pos) (λsc m k kx=>xa sc m (λx sc m=>k (.bool (!x.isNone)) sc m) kx):= λsc ω st Q X w=>
 YQ (hm:=rfl) ((ha sc ω st).step (f:= λx sc m k _=>k (V.bool (!x.isNone)) sc m) st w λω₁ v gU pv cj L₁ r₁ w₁=>apd (by refine wpAny_isNot_plain (Il r₁).1 ?_;rw[(Il r₁).2];exact w₁.here cj.bH rfl))
theorem MA(ok:c.Ok){pa:Su}{p pos:SE}{xa:Sc→ai→K V}(ha:Ev c aa pa xa):
  Ev c aa (.Compare pa [.Eq] [.List [] p] pos) (λsc m k kx=>xa sc m (λx sc m=>ask An.qi (NJ x m) sc λb sc=>k (.bool b) sc m) kx):= λsc ω st Q X w=>
 YQ (hm:=rfl) ((ha sc ω st).step st w λω₁ v gU pv cj L₁ r₁ w₁=>List_ (spliced_nil (by
  obtain⟨y,fz,e,w₂⟩:=w₁.ask (g:= λb sc k _=>k (V.bool b) sc ω₁.m);refine dm e λl el ev=> ?_;obtain⟨x,xs,rfl,L⟩:=n9 cj.bH r₁ el;refine Vh ?_ (Um _);have he:(ω₁.h.push {cls:= .type "list",data:= .seq ([]:List Value).toArray}).IsList ω₁.h.objs.size #[]:=⟨_,Tt _ rfl,rfl,0,rfl⟩;have p1:=L.at_.push {cls:= .type "list",data:= .seq ([]:List Value).toArray};have q:Q (.bool y) {ω₁.s with heap:=ω₁.h.push {cls:= .type "list",data:= .seq ([]:List Value).toArray}}:=(jd.of w₂).BW cj.bH (cZ.push _) rfl;have hu:=Sz (SV _ 100) ok.agk;cases l with
  |nil=>
   cases ev;have hsz:xs.size=(#[]:Array Value).size:=L.size;have Q9:((Sw xs.size).all λ_=>true)=true:=S9.mpr λ_ _=>rfl;refine SeqAt.eq_listAt p1 he hsz hu (e:= λ_=>true) (λj h1 h2=>absurd h2 (Nat.not_lt_zero _)) ?_;rw[Q9];exact q
  |cons v l=>
   cases ev;exact SeqAt.eq_list_lengthsAt p1 he (bne_iff_ne.mpr (by rw[L.size];exact Nat.succ_ne_zero _)) hu q)))
theorem Q0(ok:c.Ok){x:At}{po:Su}{pos:SE}{xo:Sc→ai→K V}(hx:x.ok=true)(hp:iD po=true)(ho:Ev c aa po xo):Ev c aa (.Attribute po x.str pos) (λsc m k kx=>xo sc m (λv sc m=>ask An.qo (uY x v m) sc λr sc=>k r sc m) kx):= λsc ω st Q X w=>
 Attribute_any_ (he:=by rw[arm_eval_Attribute,kH hp]) ((ho sc ω st).step st w λω₁ v gU pv cj L₁ r₁ w₁=>by obtain⟨y,fz,e,w₂⟩:=w₁.ask (g:= λr sc k _=>k r sc ω₁.m);exact EX ok.b.fb ok.b.cf hx cj.bH r₁ e λtk pu ru=>w₂.val cj tk ru)
theorem abY{po pi:Su}{pos:SE}{xo xi:Sc→ai→K V}(ho:Ev c aa po xo)(hi:Ev c aa pi xi):Ev c aa (.Subscript po pi pos) (λsc m k kx=>xo sc m (λv sc m=>xi sc m (λj sc m=>ask An.qo (item v j m) sc λr sc=>k r sc m) kx) kx):= λsc ω st Q X w=>
 Subscript_ ((ho sc ω st).step st w λω₁ v gU pv cj L₁ r₁ w₁=>(hi gU ω₁ cj).step cj w₁ λω₂ u wH pu qO L₂ r₂ w₂=>by obtain⟨y,fz,e,w₃⟩:=w₂.ask (g:= λr sc k _=>k r sc ω₂.m);exact NZ qO.bH (r₁.bg L₂) r₂ e λtk pu ru=>w₃.val qO tk ru)
noncomputable def fK:Su→Bool
 |.Starred _ _=>false
 |_=>true
theorem qp{e:Su}(h:fK e=true)(rest:List Su)(env:SY):UH (e::rest) env=(false,eval e env)::UH rest env:=by cases e<;>first|rfl|cases h
theorem ze:∀{l:List Su},l.all fK=true→∀env,(UH l env).any (·.1)=false
 |[],_,_=>rfl
 |e::l,h,env=>by rw[ape,Vr] at h;rw[qp h.1,ZQ,ze h.2];rfl
theorem iC{l:List Su}(h:l.all fK=true)(pos:SE)(env:SY):(U8 pos (UH l env)).any (·.1)=false:=by unfold U8;rw[List.any_map];exact ze h env
theorem jG{f:Value}{l:List Su}{pos:SE}{env:SY}{M:Vp}{A:S3}{Q:Wa→Sl→Prop}{X:Value→Sl→Prop}{s:Sl}(hn:l.all fK=true)
  (h:Sq M A (YO (U8 pos (UH l env))) (λvs s'=>Q ⟨vs,[]⟩ s') X s):Sq M A (YR f true (U8 pos (UH l env)) []) Q X s:=by
 cases l with
 |nil=>
  unfold YR;show Sq M A (YO []>>=_) Q X s;refine Sm (Tq h (λvs s' h'=> ?_) λ_ _ x=>x);refine Sm (Sx ?_);refine To ?_;exact Sm (Sx (Sm (Sx (Sx h'))))
 |cons e l=>
  rw[ape,Vr] at hn;rw[qp hn.1] at h⊢;exact evalArgs_plain h
theorem Qm:NF c aa [] (λsc m k _=>k [] sc m):= λpos sc ω st Q X w=>spliced_nil (w.here st.bH ⟨rfl,rfl⟩)
theorem ND{e:Su}{l:List Su}{x:Sc→ai→K V}{y:Sc→ai→K (List V)}(hn:fK e=true)(he:Ev c aa e x)(hl:NF c aa l y):NF c aa (e::l) (λsc m k kx=>x sc m (λv sc m=>y sc m (λvs sc m=>k (v::vs) sc m) kx) kx):= λpos sc ω st Q X w=>by rw[qp hn];exact spliced_cons ((he sc ω st).step st w λω₁ v gU pv cj L₁ r₁ w₁=>(hl pos gU ω₁ cj).step (f:= λvs sc m k _=>k (v::vs) sc m) cj w₁ λω₂ u wH pu qO L₂ r₂ w₂=>w₂.here qO.bH ⟨(show eF _ (v::u) _ from⟨r₁.bg L₂,r₂.1⟩),bk UE r₂.2⟩)
theorem Ru{l:List Su}{pos:SE}{x:Sc→ai→K (List V)}(h:NF c aa l x):Ev c aa (.List l pos) (λsc m k kx=>x sc m (λl sc m=>nQ l m sc k) kx):= λsc ω st Q X w=>
 List_ ((h pos sc ω st).step st w λω₁ v gU pv cj L₁ r₁ w₁=>by obtain⟨y,m',fz,e,w₂⟩:=w₁.out (g:= λv sc m k _=>k v sc m) λk=>vA;exact EW cj.bH r₁.1 e (.of w₂))
theorem ac8{l:List Su}{k:Nat}{pos:SE}{x:Sc→ai→K (List V)}(h:NF c aa l x)(hlen:l.length≤Uc):Ev c aa (.Tuple l k pos) (λsc m k kx=>x sc m (λl sc m=>k (.bJ l) sc m) kx):= λsc ω st Q X w=>
 Tuple_ ((h pos sc ω st).step (f:= λl sc m k _=>k (V.bJ l) sc m) st w λω₁ v gU pv cj L₁ r₁ w₁=>Bv cj.bH r₁.1 (r₁.2.symm▸hlen) (.of w₁))
theorem Rd{k:KK}{pos:SE}:Ev c aa (.Dict [] [] pos) (λsc m k' _=>k' (.ref m.next) sc (m.push (.dict k []))):= λsc ω st Q X w=>LK st.bH (.of w)
theorem GD{lower upper:Option Su}{pos:SE}{env:SY}{M:Vp}{A:S3}{Q:Value→Sl→Prop}{X:Value→Sl→Prop}{s:Sl}
  (h:Sq M A (XI (XJ lower env)) (λl s₁=>Sq M A (XI (XJ upper env)) (λu s₂=>Q (.ref s₂.heap.objs.size) {s₂ with heap:=s₂.heap.push {cls:= .type "slice",data:= .fields #[l,u,.none]}}) X s₁) X s):
  Sq M A (eval (.Slice lower upper none pos) env) Q X s:=by
 rw[arm_eval_Slice];refine Sm (Tq h (λl s₁ h₁=>Sm (To (Tq h₁ (λu s₂ h₂=> ?_) λ_ _ x=>x))) λ_ _ x=>x);refine Sm (To (m:=XI (XJ none env)) (Sx (a:=Ti) ?_));exact Vh h₂ (by size_fits)
def OY(ω:Wd)(l:List V)(pv:Value):Prop:=match l with|[]=>pv=Ti|v::_=>VR ω v pv
def Ia(l:List V)(i:Option Int):Prop:=match l with|[]=>i=none|v::_=> ∃j,i=some j∧v=.int j
def EvP(c:Cx)(aa:List V)(pe:Option Su)(p:Sc→ai→K (List V)):Prop:= ∀sc ω,c.St aa ω→Bo c.b W0 ω OY (XI (XJ pe c.env)) (p sc ω.m)
theorem QF:EvP c aa none (λsc m k _=>k [] sc m):= λsc ω st Q X w=>Sx (a:=Ti) (w.here st.bH rfl)
theorem Sa{pe:Su}{x:Sc→ai→K V}(h:Ev c aa pe x):EvP c aa (some pe) (λsc m k kx=>x sc m (λv sc m=>k [v] sc m) kx):= λsc ω st Q X w=>
 (h sc ω st).step (f:= λv sc m k _=>k [v] sc m) st w λω₁ v gU pv cj L₁ r₁ w₁=>w₁.here cj.bH r₁
theorem C7{l:List V}{k:Option Int→Prop}(h:vq l k):∃i,k i∧Ia l i:=by
 cases l with
 |nil=>exact⟨none,h,rfl⟩
 |cons v l=>cases v with
  |int j=>exact⟨some j,h,j,rfl,rfl⟩
  |_=>exact h.elim
theorem AR{l:List V}{i:Option Int}{pv:Value}(h:Ia l i)(r:OY ω l pv):WJ pv i:=by
 cases l with
 |nil=>rw[show i=none from h,show pv=_ from r];exact .none
 |cons v l=>
  obtain⟨j,rfl,rfl⟩:=h;obtain⟨t,rfl⟩:=r;exact .int j t
theorem PK{po:Su}{pl pu:Option Su}{p pos:SE}{xo:Sc→ai→K V}{xl xu:Sc→ai→K (List V)}(ho:Ev c aa po xo)(hl:EvP c aa pl xl)(hu:EvP c aa pu xu):
  Ev c aa (.Subscript po (.Slice pl pu none p) pos) (λsc m k kx=>xo sc m (λv sc m=>xl sc m (λa sc m=>xu sc m (λb sc m=>vq a λa=>vq b λb=>uA (iw v a b) m sc k) kx) kx) kx):= λsc ω st Q X w=>
 Subscript_ ((ho sc ω st).step st w λω₁ v gU pv cj L₁ r₁ w₁=>GD ((hl gU ω₁ cj).step cj w₁ λω₂ a wH pa qO L₂ r₂ w₂=>(hu wH ω₂ qO).step (f:= λb sc m k _=>vq a λa=>vq b λb=>uA (iw v a b) m sc k) qO w₂ λω₃ d sc₃ pd IW L₃ r₃ w₃=>by
  obtain⟨i,q1,w₃⟩:=w₃.ex (q:= λi k _=>vq d λb=>uA (iw v i b) ω₃.m sc₃ k) (G:=Ia a) λk _ h=>by obtain⟨i,h,q⟩:=C7 h;exact⟨i,q,h⟩
  obtain⟨j,q2,w₃⟩:=w₃.ex (q:= λj k _=>uA (iw v i j) ω₃.m sc₃ k) (G:=Ia d) λk _ h=>by obtain⟨i,h,q⟩:=C7 h;exact⟨i,q,h⟩
  obtain⟨y,m',fz,e,w₄⟩:=w₃.out (g:= λv sc m k _=>k v sc m) λk=>xw;have G:cZ ω₃.s {ω₃.s with heap:=ω₃.h.push {cls:= .type "slice",data:= .fields #[pa,pd,.none]}}:=cZ.push _;have R':=G.bH IW.bH;have ra:OY ω₃ a pa:=by
   cases a with
   |nil=>exact r₂
   |cons v l=>exact VR.bg L₃ r₂
  exact Kc (ω:=ω₃.at _) R' ((r₁.bg L₂).bg L₃|>.bg G.le) (aqW _ _ _ _) (AR q1 ra) (AR q2 r₃) e (jd.at (.of w₄) G.ext R' .none)))
end
end
section
noncomputable def fX(x:Sv):Bool:=x !="__debug__"&&x !="__classdict__"
theorem oj{x:Sv}(h:fX x=true):(x==("__debug__":Sv))=false:=by unfold fX at h;rw[Vr] at h;simpa [bne] using h.1
theorem K7{x:Sv}(h:fX x=true):(x==("__classdict__":Sv))=false:=by unfold fX at h;rw[Vr] at h;simpa [bne] using h.2
noncomputable def own(k:Option S5):Bool:=match k with
 |some .local|some .cell|some .free=>true
 |_=>false
section
variable{α β γ δ:Type}{c:Cx}{aa:List V}{ω:Wd}{X:Value→Sl→Prop}
theorem Eg(ok:c.Ok){x:Sv}{k:Nat}{v:V}{Q:Value→Sl→Prop}(hx:fX x=true)(hn:c.nm.lookup x=some k)(ho:own (c.env.kindOf x)=true)(st:c.St aa ω)(hv:fj aa k=some v)
  (hQ:∀pv,VR ω v pv→Q pv ω.s):Sq c.b.P.M c.b.A (loadName c.env x) Q X ω.s:=by
 cases hk:c.env.kindOf x with
 |none=>rw[hk] at ho;exact gg ho
 |some kd=>
  rw[hk] at ho;cases kd with
  |«local»=>
   obtain⟨mm,h1,h2⟩:=st.lX.ns;obtain⟨pv,h3,h4⟩:=h2 x k v hk hn hv;exact wpAny_loadName_local ok.kind hk h1 h3 (hQ pv h4)
  |cell=>
   obtain⟨a,ov,h1,h2,h3⟩:=st.lX.cell x (.inl hk);obtain⟨pv,rfl,h5⟩:=h3 k v hn hv;exact wpAny_loadName_cell ok.kind hk h1 h2 (hQ pv h5)
  |free=>
   obtain⟨a,ov,h1,h2,h3⟩:=st.lX.cell x (.inr hk);obtain⟨pv,rfl,h5⟩:=h3 k v hn hv;exact wpAny_loadName_free ok.kind hk h1 h2 (hQ pv h5) (K7 hx)
  |_=>exact gg ho
theorem ae1(ok:c.Ok){x:Sv}{k:Nat}{pos:SE}(hx:fX x=true)(hn:c.nm.lookup x=some k)(ho:own (c.env.kindOf x)=true):Ev c aa (.Name x pos) (λsc m k' _=>gp (fj aa k) (λv sc=>k' v sc m) sc):= λsc ω st Q X w=>by obtain⟨v,fz,e,w⟩:=w.gp (g:= λv sc k _=>k v sc ω.m);exact wpAny_Name (hd:=oj hx) (Eg ok hx hn ho st e λpv r=>w.here st.bH r)
theorem nk(ok:c.Ok){x:Sv}{pos:SE}{v:Value}{Q:Value→Sl→Prop}(hx:fX x=true)(hk:c.env.kindOf x=some .globalImplicit)(hv:Ub c.b.P.K TG x=some (some v))(st:c.St aa ω)(hQ:Q v ω.s):
  Sq c.b.P.M c.b.A (eval (.Name x pos) c.env) Q X ω.s:=by
 obtain⟨mg,mb,h1,h2,h3,h4⟩:=ok.b.fb.dI _ st.bH.base;exact apf (hd:=oj hx) ok.kind hk (loadGlobal_global (by rw[ok.dI];exact h1) (h2 x _ hv) hQ)
theorem QJ(ok:c.Ok){x:Sv}{pos:SE}{v:Value}{Q:Value→Sl→Prop}(hx:fX x=true)(hk:c.env.kindOf x=some .globalImplicit)(hv:(x,v)∈bis)(st:c.St aa ω)(hQ:Q v ω.s):
  Sq c.b.P.M c.b.A (eval (.Name x pos) c.env) Q X ω.s:=by
 obtain⟨mg,mb,h1,h2,h3,h4⟩:=ok.b.fb.dI _ st.bH.base;exact apf (hd:=oj hx) ok.kind hk (loadGlobal_builtin (by rw[ok.dI];exact h1) (h2 x _ (ok.b.gf.bi _ hv)) (by rw[ok.bi];exact h3) (h4 _ hv) hQ)
theorem QV(ok:c.Ok){g:Gl}{pos:SE}(hg:g.ok=true)(hx:fX (SH g.name)=true)(hk:c.env.kindOf (SH g.name)=some .globalImplicit):Ev c aa (.Name (SH g.name) pos) (λsc m k _=>k (.int g.val) sc m):= λsc ω st Q X w=>by obtain⟨t,ht⟩:=ok.b.gf.dI g hg;exact nk ok hx hk ht st (w.here st.bH ⟨t,rfl⟩)
noncomputable def Iv(v:V):WO→Bool
 |.none=>v.isNone
 |.bool a=>isSome v.zh λb=>a==b
 |.int a=>isSome v.fk λb=>decide (a=b)
 |.str s=>isSome v.LN λk=>S8 k yY&&s==SH (gE k)
 |.bytes a=>isSome v.sX λb=>decide (a=b)
 |_=>false
theorem ae0{v:V}{k:WO}{n:Nat}{pos:SE}(h:Iv v k=true):Ev c aa (.Constant k n pos) (λsc m k _=>k v sc m):= λsc ω st Q X w=>by
 cases k with
 |none=>rw[V.of_none h] at w;exact apd (w.here st.bH rfl)
 |bool a=>obtain⟨b,e,h⟩:=dB h;rw[V.xr e,←eq_of_beq h] at w;exact Constant_bool (w.here st.bH rfl)
 |int a=>obtain⟨b,e,h⟩:=dB h;rw[V.r7 e,←of_decide_eq_true h] at w;exact wpAny_Constant_int ((jd.of w).toks st.bH _ ⟨_,rfl⟩)
 |str s=>
  obtain⟨b,e,h⟩:=dB h;obtain⟨h1,h2⟩:=Sn.mp h;rw[V.PM e] at w;rw[eq_of_beq h2];exact XK ((jd.of w).toks st.bH _ ⟨TF h1,_,rfl⟩)
 |bytes a=>obtain⟨b,e,h⟩:=dB h;rw[V.t8 e,←of_decide_eq_true h] at w;exact Constant_bytes ((jd.of w).toks st.bH _ ⟨_,rfl⟩)
 |_=>exact gg h
noncomputable def Bi.isT:Bi→Bool
 |.range=>true|.bytes=>true|.tuple=>true|_=>false
noncomputable def Bi.val(f:Bi):Value:=match f.isT with|true=> .type f.name|false=> .builtin f.name
noncomputable def Bi.rA(f:Bi)(n:Nat):Bool:=match f with
 |.range=>SA n 1||SA n 2
 |.max=>SA n 2
 |_=>SA n 1
noncomputable def Bi.Cv:Bi→Bool|.max=>true|.bytes=>true|_=>false
theorem aeO(f:Bi):(SH f.name,f.val)∈bis:=by cases f<;>decide+kernel
theorem K6{vs:List V}{ps:List Value}{n:Nat}(r:eF ω vs ps)(h:ps.length=n)(e:SA n 1=true):∃v p,vs=[v]∧ps=[p]∧VR ω v p:=by
 subst h;cases ps with
 |nil=>exact gg e
 |cons p ps=>cases ps with
  |cons _ _=>exact gg e
  |nil=>cases vs with
   |nil=>exact nomatch r
   |cons v vs=>cases vs with
    |nil=>exact⟨v,p,rfl,rfl,r.1⟩
    |cons _ _=>exact r.2.elim
theorem agM{vs:List V}{ps:List Value}{n:Nat}(r:eF ω vs ps)(h:ps.length=n)(e:SA n 2=true):∃v p u q,vs=[v,u]∧ps=[p,q]∧VR ω v p∧VR ω u q:=by
 subst h;cases ps with
 |nil=>exact gg e
 |cons p ps=>cases vs with
  |nil=>exact nomatch r
  |cons v vs=>
   obtain⟨u,q,rfl,rfl,r2⟩:=K6 r.2 rfl e;exact⟨v,p,u,q,rfl,rfl,r.1,r2⟩
theorem abN(ok:c.Ok){f:Bi}{v:V}{p:Value}{sc:Sc}{Q:Value→Sl→Prop}(hh:f.Cv=true→c.b.A.handled=none)(st:c.St aa ω)(r:VR ω v p)(h:f.rA 1=true)(w:cP c.b W0 ω VR (λk _=>biB f [v] ω.m sc k) Q X):Sq c.b.P.M c.b.A (call f.val [p]) Q X ω.s:=by
 cases f with
 |len=>
  obtain⟨y,fz,e,w⟩:=w.ask (g:= λr sc k _=>k r sc ω.m);exact dm e λk ek ev=>aax ok.b.fb st.bH r ek λtk t=>(jd.of w).toks st.bH tk (ev.symm▸⟨t,rfl⟩)
 |sorted=>obtain⟨y,m',fz,e,w⟩:=w.out (g:= λv sc m k _=>k v sc m) λk=>xw;exact Gy ok.b.fb ok.b.hd st.bH r e (.of w)
 |range=>obtain⟨y,fz,e,w⟩:=w.ask (g:= λr sc k _=>k r sc ω.m);exact FL st.bH r e (.of w)
 |max=>exact gg h
 |bytes=>obtain⟨y,fz,e,w⟩:=w.ask (g:= λr sc k _=>k r sc ω.m);exact Fc (hh rfl) st.bH r e (.of w)
 |tuple=>obtain⟨y,fz,e,w⟩:=w.ask (g:= λr sc k _=>k r sc ω.m);exact EI st.bH r e (.of w)
 |all=>obtain⟨y,fz,e,w⟩:=w.ask (g:= λr sc k _=>k r sc ω.m);exact Lm ok.b.hd st.bH r e (.of w)
theorem acN{f:Bi}{v u:V}{p q:Value}{sc:Sc}{Q:Value→Sl→Prop}(hh:f.Cv=true→c.b.A.handled=none)(st:c.St aa ω)(r:VR ω v p)(r2:VR ω u q)(h:f.rA 2=true)(w:cP c.b W0 ω VR (λk _=>biB f [v,u] ω.m sc k) Q X):Sq c.b.P.M c.b.A (call f.val [p,q]) Q X ω.s:=by
 cases f with
 |range=>obtain⟨y,fz,e,w⟩:=w.ask (g:= λr sc k _=>k r sc ω.m);exact Kp st.bH r r2 e (.of w)
 |max=>obtain⟨y,fz,e,w⟩:=w.ask (g:= λr sc k _=>k r sc ω.m);exact LV (hh rfl) st.bH r r2 e (.of w)
 |_=>exact gg h
theorem Dy{f:Bi}{n:Nat}(h:f.rA n=true):SA n 1=true∨SA n 2=true:=by
 cases f with
 |range=>exact apg.mp h
 |max=>exact .inr h
 |_=>exact .inl h
theorem aeb(ok:c.Ok){f:Bi}{n:Nat}{vs:List V}{ps:List Value}{sc:Sc}{Q:Value→Sl→Prop}(ha:f.rA n=true)(hh:f.Cv=true→c.b.A.handled=none)(st:c.St aa ω)(r:eF ω vs ps)(hl:ps.length=n)(w:cP c.b W0 ω VR (λk _=>biB f vs ω.m sc k) Q X):Sq c.b.P.M c.b.A (call f.val ps) Q X ω.s:=by
 rcases Dy ha with e|e
 ·obtain⟨v,p,rfl,rfl,r1⟩:=K6 r hl e
  exact abN ok hh st r1 (T8 e▸ha) w
 ·obtain⟨v,p,u,q,rfl,rfl,r1,r2⟩:=agM r hl e
  exact acN hh st r1 r2 (T8 e▸ha) w
theorem JC(f:Bi):fX (SH f.name)=true:=by cases f<;>decide+kernel
theorem adi(f:Bi):f.val=.type f.name∨f.val=.builtin f.name:=by
 unfold Bi.val;cases f.isT
 ·exact .inr rfl
 ·exact .inl rfl
theorem Ff{f:Bi}{l:List Su}{pos:SE}{Q:Value→Sl→Prop}{s:Sl}(hn:l.all fK=true)
  (key:Sq c.b.P.M c.b.A (YR f.val true (U8 pos (UH l c.env)) []) (λargs s=>Sq c.b.P.M c.b.A (call f.val ([]++args.pos) args.kw) Q X s) X s):Sq c.b.P.M c.b.A (callWith pos f.val [] (U8 pos (UH l c.env)) []) Q X s:=by
 rcases adi f with e|e<;>rw[e] at key⊢
 ·exact aqX (iC hn _ _) key
 ·exact aph (iC hn _ _) key
theorem ahC(ok:c.Ok){f:Bi}{x:Sv}{p pos:SE}{l:List Su}{y:Sc→ai→K (List V)}(hx:x=SH f.name)(hk:c.env.kindOf x=some .globalImplicit)(hn:l.all fK=true)(ha:f.rA l.length=true)(hh:f.Cv=true→c.b.A.handled=none)(hl:NF c aa l y):
  Ev c aa (.Call (.Name x p) l [] pos) (λsc m k kx=>y sc m (λl sc m=>biB f l m sc k) kx):= λsc ω st Q X w=>by
 rw[hx] at hk⊢;exact YS (QJ ok (JC f) hk (aeO f) st (Ff hn (jG hn ((hl pos sc ω st).step (f:= λl sc m k _=>biB f l m sc k) st w λω₁ vs gU ps cj L₁ r₁ w₁=>aeb ok ha hh cj r₁.1 r₁.2 w₁))))
end
end
section
theorem vI{o:Su}{name:Sv}{apos pos:SE}{args:List Su}{M:Vp}{A:S3}{env:SY}{Q:Value→Sl→Prop}{X:Value→Sl→Prop}{s:Sl}(hp:iD o=true)(hs:args.all fK=true)(hn:args.length<29)(hl:(apos.endLine==pos.line)=true)
  (h:Sq M A (eval o env) (λov s₁=> ∀pl,Sq M A (WK ov name pl) (λfx s₂=>Sq M A (callWith pos fx.1 fx.2 (U8 pos (UH args env)) []) Q X s₂) X s₁) X s):
  Sq M A (eval (.Call (.Attribute o name apos) args [] pos) env) Q X s:=by
 rw[arm_eval_Call,kH hp];refine Sm (Tq h (λov s₁ h₁=>Sm (Uo ?_)) λ_ _ x=>x);have few:api (args.length+([]:List Keyword).length) (U8 pos (UH args env)) (backToKw pos (keywordEach [] env))=true:=by
  unfold api;have h1:=iC hs pos env;have h2:(U8 pos (UH args env)).all (!·.1)=true:=S9.mpr λx hx=>by rw[Wb];exact XM _▸XD.mp h1 x hx
  rw[h2];have h3:backToKw pos (keywordEach [] env)=[]:=rfl;rw[h3];simp;omega
 unfold methodCall;rw[few];refine Sm (To ?_);unfold calleeOf;rw[aG rfl];refine Tq (h₁ _) (λfx s₂ h₂=> ?_) λ_ _ x=>x;refine Sm ?_;unfold methodCallPos;rw[hl];exact Sx h₂
noncomputable def Me.id:Me→String
 |.append=>"list.append"|.get=>"dict.get"|.pop=>"dict.pop"
noncomputable def Me.rA:Me→Nat
 |.get=>2|_=>1
section
variable{α β γ δ:Type}{c:Cx}{aa:List V}{ω:Wd}{X:Value→Sl→Prop}
theorem aeu{f:Me}{v:V}{pv:Value}{pl:SJ Bool}{Q:Value×List Value→Sl→Prop}(R:c.b.bY ω)(r:VR ω v pv)(h:ae8 f v ω.m=true)(hQ:Q (.builtin f.id,[pv]) ω.s):Sq c.b.P.M c.b.A (WK pv (SH f.name) pl) Q X ω.s:=by
 cases f with
 |append=>
  obtain⟨l,e⟩:=qF h;refine aD e λa ea e=> ?_;rw[(r.ref ea).2] at hQ⊢;exact uN R (ai.fG e) hQ
 |get=>
  obtain⟨p,e⟩:=qF h;refine aD e λa ea e=> ?_;rw[(r.ref ea).2] at hQ⊢;exact p6 (id:="dict.get") aoY PySem.F.type_dict_get R (ai.qv (k:=p.1) (es:=p.2) e) hQ
 |pop=>
  obtain⟨p,e⟩:=qF h;refine aD e λa ea e=> ?_;rw[(r.ref ea).2] at hQ⊢;exact p6 (id:="dict.pop") aoX PySem.F.type_dict_pop R (ai.qv (k:=p.1) (es:=p.2) e) hQ
theorem acJ(ok:c.Ok){f:Me}{o:V}{po:Value}{vs:List V}{ps:List Value}{n:Nat}{sc:Sc}{Q:Value→Sl→Prop}(ha:SA n f.rA=true)(st:c.St aa ω)(ro:VR ω o po)(r:eF ω vs ps)(hl:ps.length=n)(w:cP c.b W0 ω VR (λk _=>meB f o vs ω.m sc k) Q X):Sq c.b.P.M c.b.A (call (.builtin f.id) (po::ps)) Q X ω.s:=by
 cases f with
 |append=>
  obtain⟨v,p,rfl,rfl,r1⟩:=K6 r hl ha;obtain⟨y,m',fz,e,w⟩:=w.out (g:= λv sc m k _=>k v sc m) λk=>G3;exact GL st.bH ro r1 e (.of w)
 |get=>
  obtain⟨v,p,u,q,rfl,rfl,r1,r2⟩:=agM r hl ha;obtain⟨y,fz,e,w⟩:=w.ask (g:= λr sc k _=>k r sc ω.m);exact M9 ok.b.fb st.bH ro r1 r2 e λtk pv r=>w.val st tk r
 |pop=>
  obtain⟨v,p,rfl,rfl,r1⟩:=K6 r hl ha;obtain⟨y,m',fz,e,w⟩:=w.out (g:= λv sc m k _=>k v sc m) λk=>xw;exact MM st.bH ro r1 e (.of w)
theorem agS(ok:c.Ok){f:Me}{po:Su}{apos pos:SE}{l:List Su}{xo:Sc→ai→K V}{y:Sc→ai→K (List V)}(hp:iD po=true)(hl:(apos.endLine==pos.line)=true)(hn:l.all fK=true)(ha:SA l.length f.rA=true)(ho:Ev c aa po xo)(hy:NF c aa l y):
  Ev c aa (.Call (.Attribute po (SH f.name) apos) l [] pos) (λsc m k kx=>xo sc m (λx sc m=>ask An.qi (some (ae8 f x m)) sc λb sc=>nR b (y sc m (λl sc m=>meB f x l m sc k) kx)) kx):= λsc ω st Q X w=>
 vI hp hn (by rw[T8 ha];cases f<;>decide) hl ((ho sc ω st).step st w λω₁ v gU pv cj L₁ r₁ w₁ pl=>by obtain⟨h,fz,w₁⟩:=w₁.yw (g:= λsc k kx=>y sc ω₁.m (λl sc m=>meB f v l m sc k) kx);refine aeu cj.bH r₁ h (aph (iC hn _ _) (jG hn ((hy pos fz ω₁ cj).step (f:= λl sc m k _=>meB f v l m sc k) cj w₁ λω₂ vs wH ps qO L₂ r₂ w₂=> ?_)));exact acJ ok ha qO (r₁.bg L₂) r₂.1 r₂.2 w₂)
def xH(c:Cx)(D:Fn→List V→ai→Sc→K V):Prop:= ∀f vs m sc,f.ok=true→(c.q=true→f.quiet=true)→kj c.b f.quiet f vs m (D f vs m sc)∧∀args,kj (c.b.new args) f.quiet f vs m (D f vs m sc)
theorem RN(ok:c.Ok){D:Fn→List V→ai→Sc→K V}(Et:xH c D){f:Fn}{x:Sv}{p pos:SE}{l:List Su}{y:Sc→ai→K (List V)}(hx:fX x=true)(hf:x=SH f.qual)(P1:f.ok=true)(ht:f.top=true)(hk:c.env.kindOf x=some .globalImplicit)(hq:c.q=true→f.quiet=true)(hn:l.all fK=true)(hl:NF c aa l y):
  Ev c aa (.Call (.Name x p) l [] pos) (λsc m k kx=>y sc m (λl sc m=>D f l m sc k kx) kx):= λsc ω st Q X w=>by
 subst hf;refine YS (nk ok hx hk (ok.b.gf.fn f P1 ht) st ?_);refine YT (P:= λh=>c.b.P.K.In h) (by rw[iC hn];rfl) (YU (ok.b.gf.fnK f P1)) (jG hn ((hl pos sc ω st).step (f:= λl sc m k kx=>D f l m sc k kx) st w λω₁ vs gU ps cj L₁ r₁ w₁=>⟨ok.b.fb.Mn _ cj.bH.base,?_⟩));exact YV ((Et f vs ω₁.m gU P1 hq).1 ω₁ ps rfl (ok.quiet.imp id hq) cj.bH cj.zD r₁.1 Q X w₁)
theorem R9{v:V}{k:jn}{x:At}{m:ai}(h:Hz v k x m=true):∃a fs,v=.ref a∧m.get a=some (.inst k fs)∧fs.lookup x=none:=by obtain⟨a,e,h⟩:=dB h;obtain⟨p,e',h⟩:=dB h;obtain⟨h1,h2⟩:=Sn.mp h;exact⟨a,p.2,V.BF e,ai.of_inst (c:=k) (fs:=p.2) (by rw[e',←show p.1=k from T8 h1]),YW.mp h2⟩
theorem MW(ok:c.Ok){D:Fn→List V→ai→Sc→K V}(Et:xH c D){f:Fn}{k:jn}{x:At}{po:Su}{apos pos:SE}{l:List Su}{xo:Sc→ai→K V}{y:Sc→ai→K (List V)}(hx:x.ok=true)(hp:iD po=true)(hl:(apos.endLine==pos.line)=true)(hn:l.all fK=true)(hlen:l.length<29)(P1:f.ok=true)(hm:k.BZ x=some f)(hq:c.q=true→f.quiet=true)(ho:Ev c aa po xo)(ha:NF c aa l y):
  Ev c aa (.Call (.Attribute po x.str apos) l [] pos) (λsc m k' kx=>xo sc m (λv sc m=>ask An.qi (some (Hz v k x m)) sc λb sc=>nR b (y sc m (λl sc m=>D f (v::l) m sc k' kx) kx)) kx):= λsc ω st Q X w=>
 vI hp hn hlen hl ((ho sc ω st).step st w λω₁ v gU pv cj L₁ r₁ w₁ pl=>by obtain⟨h,fz,w₁⟩:=w₁.yw (g:= λsc k' kx=>y sc ω₁.m (λl sc m=>D f (v::l) m sc k' kx) kx);obtain⟨a,fs,ev,hi,hno⟩:=R9 h;have r₁':=r₁;rw[ev] at r₁';rw[r₁'.2];refine z3 ok.b.fb ok.b.cf hx cj.bH hi hno hm (ok.b.gf.fnT f P1) ?_;refine YT (P:= λh=>c.b.P.K.In h) (by rw[iC hn];rfl) (YU (ok.b.gf.fnK f P1)) (jG hn ((ha pos fz ω₁ cj).step (f:= λl sc m k' kx=>D f (v::l) m sc k' kx) cj w₁ λω₂ vs wH ps qO L₂ r₂ w₂=>⟨ok.b.fb.Mn _ qO.bH.base,?_⟩));exact YV ((Et f (v::vs) ω₂.m wH P1 hq).1 ω₂ (_::ps) rfl (ok.quiet.imp id hq) qO.bH qO.zD ⟨r₁'.2▸r₁.bg L₂,r₂.1⟩ Q X w₂))
theorem JV{b:Bx}(C:CF b.P)(R:b.bY ω){k:jn}(hk:k.ok=true):b.bY (ω.add (.inst k []) (ω.h.objs.size+1) ω.h.objs.size {ω.s with heap:=(ω.h.push VJ).push (VA (b.P.ca k) ω.h.objs.size)})∧fZ W0 ω (ω.add (.inst k []) (ω.h.objs.size+1) ω.h.objs.size {ω.s with heap:=(ω.h.push VJ).push (VA (b.P.ca k) ω.h.objs.size)}):=by
 have e1:(ω.h.push VJ).get? ω.h.objs.size=some VJ:=Tt _ rfl;have e2:((ω.h.push VJ).push (VA (b.P.ca k) ω.h.objs.size)).get? (ω.h.objs.size+1)=some (VA (b.P.ca k) ω.h.objs.size):=by rw[←show(ω.h.push VJ).objs.size=ω.h.objs.size+1 from Uj ..];exact Tt _ rfl
 refine R.alloc (cZ.of λb ob e=>S7 _ (S7 _ e)) (Vs (TM _)) (bU _) ⟨?_,⟨#[],0,?_⟩,Um _,hk⟩
 ·rw[show(ω.add _ _ _ _).σ.r ω.n=_ from Loc.add_r ..,show(ω.add _ _ _ _).σ.d ω.n=_ from Loc.tM ..];exact e2
 ·rw[show(ω.add _ _ _ _).σ.d ω.n=_ from Loc.tM ..]
  exact⟨S7 _ e1,λe he=>absurd he (ao4 e),Um _,λy _=>rfl⟩
theorem IJ.new{b:Bx}{args:Wa}{m':ai}(h:IJ b W0 ω X m'):IJ (b.new args) W0 ω X m':=⟨h.1,λω' x e F=>h.2 ω' x e ⟨F.bH,F.new,F.exc,F.ext,F.tb⟩⟩
theorem ab6(ok:c.Ok){D:Fn→List V→ai→Sc→K V}(Et:xH c D){k:jn}{x:Sv}{p pos:SE}{l:List Su}{y:Sc→ai→K (List V)}(hx:fX x=true)(hf:x=SH k.name)(hko:k.ok=true)(P1:k.CQ.ok=true)(hk:c.env.kindOf x=some .globalImplicit)(hq:c.q=true→k.CQ.quiet=true)(hn:l.all fK=true)(hl:NF c aa l y):
  Ev c aa (.Call (.Name x p) l [] pos) (λsc m k' kx=>y sc m (λl sc m=>D k.CQ (.ref m.next::l) (m.push (.inst k [])) sc (λr sc m'=>nR r.isNone (k' (.ref m.next) sc m')) kx) kx):= λsc ω st Q X w=>by
 subst hf;refine YS (nk ok hx hk (ok.b.gf.cls k hko) st ?_);refine YT (P:= λh=>c.b.P.K.In h) (by rw[iC hn];rfl) (YU (ok.b.gf.aj3 k hko)) (jG hn ((hl pos sc ω st).step (f:= λl sc m k' kx=>D k.CQ (V.ref m.next::l) (m.push (.inst k [])) sc (λr sc m₂=>nR r.isNone (k' (V.ref m.next) sc m₂)) kx) st w λω₁ vs gU ps cj L₁ r₁ w₁=>⟨ok.b.fb.Mn _ cj.bH.base,?_⟩))
 have KI:=ok.b.fb.Mn _ cj.bH.base;refine YV (make_core (makes_of KI (ok.b.cf.Mf k hko)) (looks_findIn KI (ok.b.cf.CQ k hko)) (λself=>bind_fn KI self (ok.b.gf.fnT k.CQ P1)) (.inl rfl) ?_);obtain⟨R',E'⟩:=JV ok.b.cf cj.bH hko;have w₂:=w₁.at E' R' .none;have L':=E'.PB cj.bH;have rs:VR (ω₁.add (.inst k []) (ω₁.h.objs.size+1) ω₁.h.objs.size {ω₁.s with heap:=(ω₁.h.push VJ).push (VA (c.b.P.ca k) ω₁.h.objs.size)}) (.ref ω₁.m.next) (.ref (ω₁.h.objs.size+1)):=
  ⟨SX (T3 _) (Te Wd.tW.symm),bk T7 (Loc.add_r ω₁.σ ω₁.n _ _).symm⟩
 refine Xx ((Et k.CQ (.ref ω₁.m.next::vs) (ω₁.m.push (.inst k [])) gU P1 hq).2 _ (ω₁.add _ _ _ _) (.ref (ω₁.h.objs.size+1)::ps) rfl (ok.quiet.imp id hq) R' (cj.zD.ext E') ⟨rs,r₁.1.bg L'⟩
  (λu s'=>u=.none∧Q (.ref (ω₁.h.objs.size+1)) s') X (w₂.elim λk' kx hp PZ hx'=>⟨_,kx,hp,λu sc m' h ω' e R E pu ru=> ?_,λm' q=>(hx' m' q).new⟩)) (λr s' z=> ?_)
 ·obtain⟨h1,h2⟩:=qq h
  rw[V.of_none h1] at ru;exact⟨ru,PZ _ _ _ h2 ω' e R E _ (rs.bg (E.PB R'))⟩
 ·rcases r with e|(v|_|_|_)<;>first|exact z|exact z.elim
end
end
section
noncomputable abbrev uX:List String:=["enumerate","zip","dict_itemiterator","dict_reverseitemiterator","odict_iterator","itertools.zip_longest","itertools.pairwise"]
noncomputable def odd(T:String):Bool:=T=="range"||(T=="frame"||uX.contains T)
def Fg(o:SK):Prop:= ∃T vs,o.cls=.type T∧o.data=.fields vs∧odd T=false
theorem GQ{T:String}(h:odd T=false):(T=="range")=false∧(T=="frame")=false∧uX.contains T=false:=
 have a:=Wc.mp h
 ⟨a.1,Wc.mp a.2⟩
theorem Fg.gI{o:SK}(h:Fg o):¬jR o:=by
 obtain⟨T,vs,h1,h2,h3⟩:=h
 rintro (⟨_,xs,n,e⟩|⟨e,_⟩)
 ·exact nomatch h2.symm.trans e
 ·exact iZ (GQ h3).1 (h1.symm.trans e)
theorem Fg.yq{o o':SK}(h:Fg o)(s:pM o o'):o'=o:=by obtain⟨T,vs,h1,h2,h3⟩:=h;exact s.exact λe=>iZ (GQ h3).2.1 (h1.symm.trans e)
noncomputable def wc(ω:Wd)(pv:Value)(I:So)(i:Nat):V→Prop
 |.ref a=>ω.h.IsListIter I (ω.σ.r a) i
 |.bJ _=> ∃t,pv=.ref t∧ω.h.IsTupleIter I t i
 |.range lo hi=>Yy ω.h I (lo+i) (((hi-lo).toNat:Int)-i) 1
 |_=>False
structure lH(ω:Wd)(v:V)(pv:Value)(bD:List V)(I:So)(i:Nat):Prop where
 val:VR ω v pv
 items:aO v ω.m=some bD
 it:wc ω pv I i v
section
variable{b:Bx}{A:S3}{ω ω':Wd}{v:V}{pv:Value}{bD:List V}{I:So}{i:Nat}{h':S2}{tk:Nat}{X:Value→Sl→Prop}
theorem wc.obj(x:wc ω pv I i v):∃o,ω.h.get? I=some o∧Fg o:=by
 cases v with
 |ref a=>obtain⟨o,ho,hc,hd⟩:=x;exact⟨o,ho,_,_,hc,hd,by decide⟩
 |bJ l=>obtain⟨t,e,o,ho,hc,hd⟩:=x;exact⟨o,ho,_,_,hc,hd,by decide⟩
 |range lo hi=>exact⟨_,x,_,_,rfl,rfl,by decide⟩
 |_=>exact x.elim
theorem wc.keep(x:wc ω pv I i v)(hl:∀a,v=.ref a→ω'.σ.r a=ω.σ.r a)(hk:∀o,ω.h.get? I=some o→ω'.h.get? I=some o):wc ω' pv I i v:=by
 cases v with
 |ref a=>obtain⟨o,ho,r⟩:=x;show ω'.h.IsListIter I (ω'.σ.r a) i;rw[hl a rfl];exact⟨o,hk o ho,r⟩
 |bJ l=>obtain⟨t,e,o,ho,r⟩:=x;exact⟨t,e,o,hk o ho,r⟩
 |range lo hi=>exact hk _ x
 |_=>exact x.elim
theorem lH.keep(x:lH ω v pv bD I i)(L:Le ω ω')(hm:aO v ω'.m=some bD)(hk:∀o,ω.h.get? I=some o→ω'.h.get? I=some o):lH ω' v pv bD I i:=
 ⟨x.val.bg L,hm,x.it.keep (λa e=>L.loc a (by have q:=x.val;rw[e] at q;exact q.1)) hk⟩
theorem lH.j6(x:lH ω v pv bD I i)(R:b.bY ω):¬ez ω I:= λf=>by obtain⟨o,e,T,vs,_,h2,_⟩:=x.it.obj;obtain⟨o',e',_,c⟩:=R.lD f;cases e.symm.trans e';exact c vs h2
theorem lH.le(x:lH ω v pv bD I i){s':Sl}(k:Tn I ω.h s'.heap):Le ω (ω.at s'):=⟨SQ _,λ_ _=>rfl,λb o e f=>k b o (λz=>by obtain⟨o',e',q⟩:=x.it.obj;cases e.symm.trans (z▸e');exact q.gI f) e⟩
theorem lH.bH(x:lH ω v pv bD I i)(R:b.bY ω)(hI:b.B I=none){s':Sl}(k:Tn I ω.h s'.heap):b.bY (ω.at s'):=
 R.but k (x.j6 R) hI λo e=>by obtain⟨o',e',q⟩:=x.it.obj;cases e.symm.trans e';exact q.gI
theorem lH.step(x:lH ω v pv bD I i){s':Sl}{j:Nat}(k:Tn I ω.h s'.heap)(it:wc (ω.at s') pv I j v):lH (ω.at s') v pv bD I j:=⟨x.val.bg (x.le k),x.items,it⟩
theorem yp{Q:Value→Sl→Prop}(R:b.bY ω)(hv:VR ω v pv)(e:aO v ω.m=some bD)
  (hQ:∀o,lH (ω.at {ω.s with heap:=ω.h.push o}) v pv bD ω.h.objs.size 0→Q (.ref ω.h.objs.size) {ω.s with heap:=ω.h.push o}):Sq b.P.M A (XN pv) Q X ω.s:=by
 have go:∀o,wc (ω.at {ω.s with heap:=ω.h.push o}) pv ω.h.objs.size 0 v→Q (.ref ω.h.objs.size) {ω.s with heap:=ω.h.push o}:= λo it=>hQ o ⟨hv.bg (cZ.le (cZ.push (tk:=ω.s.toks) o)),e,it⟩;clear hQ;cases v with
 |ref a=>
  obtain⟨xs,_,L⟩:=R.list (ai.fG e);rw[hv.2];exact ao1 L.at_ (go _ ⟨_,Tt _ rfl,rfl,rfl⟩)
 |bJ l=>
  obtain⟨a,xs,rfl,ht,_⟩:=hv;exact wpAny_pyIter_tuple ht (go _ ⟨_,rfl,_,Tt _ rfl,rfl,rfl⟩)
 |range lo hi=>
  obtain⟨a,t,u,w,rfl,hr,hsm⟩:=hv;refine wpAny_pyIter_range hr hsm (go _ ?_);rw[ao2];show Yy _ _ (lo+((0:Nat):Int)) (_-((0:Nat):Int)) _;rw[Int.natCast_zero,ao3,YX];exact Tt _ rfl
 |_=>exact no e
theorem R8{Q:Value→Sl→Prop}(it:lH ω v pv bD I i)(hQ:Q (.ref I) ω.s):Sq b.P.M A (XN (.ref I)) Q X ω.s:=by
 have it:=it.it;cases v with
 |ref a=>exact Z3 it hQ
 |bJ l=>obtain⟨t,_,it⟩:=it;exact wpAny_pyIter_tupleiter it hQ
 |range lo hi=>exact wpAny_pyIter_rangeiter it hQ
 |_=>exact it.elim
theorem HB{n:Nat}{lo:Int}{x:V}(h:((Sw n).map λn:Nat=>V.int (lo+(n:Int)))[i]? =some x):i<n∧x=.int (lo+i):=by rw[Tz] at h;obtain⟨k,hk,rfl⟩:=map_some h;obtain⟨h1,h2⟩:=Vq.mp hk;rw[List.getElem_range] at h2;rw[Uz] at h1;exact⟨h1,by rw[h2]⟩
theorem GV(lo n:Int)(i:Nat):lo+(i:Int)+1=lo+((i+1:Nat):Int)∧n-i-1=n-((i+1:Nat):Int):=⟨Int.add_assoc ..,Int.sub_sub ..⟩
theorem Cn{x:V}{Q:Option Value→Sl→Prop}(R:b.bY ω)(it:lH ω v pv bD I i)(hx:bD[i]? =some x)
  (hQ:∀h' tk px,Tn I ω.h h'→lH (ω.at {ω.s with heap:=h',toks:=tk}) v pv bD I (i+1)→VR (ω.at {ω.s with heap:=h',toks:=tk}) x px→Q (some px) {ω.s with heap:=h',toks:=tk}):Sq b.P.M A (Uk (.ref I)) Q X ω.s:=by
 have go:∀h' tk px,Tn I ω.h h'→wc (ω.at {ω.s with heap:=h',toks:=tk}) pv I (i+1) v→VR ω x px→Q (some px) {ω.s with heap:=h',toks:=tk}:= λh' tk px k it' r=>hQ h' tk px k (it.step k it') (r.bg (it.le k));clear hQ;obtain⟨hv,e,it⟩:=it;cases v with
 |ref a=>
  obtain⟨xs,_,L⟩:=R.list (ai.fG e);obtain⟨px,h1,h2⟩:=L.aa.get hx;exact Z2 it L.at_ (by rw[←U0];exact h1) λh' it' ue=>go h' ω.s.toks px ue.extBut it' h2
 |bJ l=>
  obtain⟨a,xs,rfl,ht,hs⟩:=hv;obtain⟨t',e1,it⟩:=it;cases SN e;cases e1;obtain⟨px,h1,h2⟩:=hs.get hx;exact wpAny_pyNext_tuple_item it ht (by rw[←U0];exact h1) λh' it' ue=>go h' ω.s.toks px ue.extBut ⟨_,rfl,it'⟩ h2
 |range lo hi=>
  cases SN e;obtain⟨h1,rfl⟩:=HB hx;obtain⟨e1,e2⟩:=GV lo ((hi-lo).toNat:Int) i;refine wpAny_pyNext_range_item it (Int.sub_pos.mpr (TH.mpr h1)) λh' it' ue=>go h' (ω.s.toks+1) _ ue.extBut ?_ ⟨_,rfl⟩;rw[e1,e2] at it';exact it'
 |_=>exact no e
theorem GR{Q:Option Value→Sl→Prop}(H:zH A b.B)(hI:b.B I=none)(R:b.bY ω)(it:lH ω v pv bD I i)(hx:bD[i]? =none)
  (hQ:∀h',Tn I ω.h h'→Q none {ω.s with heap:=h'}):Sq b.P.M A (Uk (.ref I)) Q X ω.s:=by
 obtain⟨hv,e,it⟩:=it;cases v with
 |ref a=>
  obtain⟨xs,_,L⟩:=R.list (ai.fG e);exact DS H R.base hI it L.at_ (by rw[←U0];exact L.aa.DJ hx) hQ
 |bJ l=>
  obtain⟨a,xs,rfl,ht,hs⟩:=hv;obtain⟨t',e1,it⟩:=it;cases SN e;cases e1;exact Kr H R.base hI it ht (by rw[←U0];exact hs.DJ hx) hQ
 |range lo hi=>
  cases SN e;have h:=Ym.mp hx;rw[Sy,Uz] at h;exact Kh H R.base it (apj (UZ.mpr h)) hQ
 |_=>exact no e
theorem DH{target:Su}{px:Value}{Q:Unit→Sl→Prop}(it:wc ω pv I i v)(hQ:Q () ω.s):Sq b.P.M A (WQ target (.ref I) px) Q X ω.s:=by
 obtain⟨o,ho,T,vs,hc,hd,hT⟩:=it.obj;have go:∀a,Sq b.P.M A (do
    let o←load I
    match o.cls,o.data with
    |.type n,.fields vs=>if(uX.contains n&&vs[0]? ==some (Ul a))=true then do rule "for.unpacks-the-owned-tuple";Yv I 0 .none else pure WR
    |_,_=>pure ()) Q X ω.s:= λa=>by
  refine Sm (Xq ho ?_);rw[hc,hd];exact VC (λz=>gg ((GQ hT).2.2.symm.trans (Sn.mp z).1)) λ_=>Sx hQ
 cases target<;>first|exact Sx hQ|(cases px<;>first|exact Sx hQ|exact go _)
theorem Nt(hI:b.B I=none):∀(k i:Nat) (ω:Wd) (Q:List Value→Sl→Prop),b.bY ω→lH ω v pv bD I i→i+k≤bD.length→
  (∀h' tk ps,Tn I ω.h h'→lH (ω.at {ω.s with heap:=h',toks:=tk}) v pv bD I (i+k)→eF (ω.at {ω.s with heap:=h',toks:=tk}) ((bD.drop i).take k) ps→Q ps {ω.s with heap:=h',toks:=tk})→Sq b.P.M A (draw (.ref I) k) Q X ω.s:= λk=>by
 induction k with
 |zero=>exactλi ω Q R it hle hQ=>Sx (hQ ω.h ω.s.toks [] (λb o _ e=>e) it rfl)
 |succ k ih=>
  intro i ω Q R it hle hQ;have hi:i<bD.length:=SX (YY (WT k)) hle;refine Sm (Cn R it (S6 hi) λh₁ tk₁ px EM it₁ r₁=> ?_);refine Sm (To (ih (i+1) (ω.at {ω.s with heap:=h₁,toks:=tk₁}) _ (it.bH R hI EM) it₁ (by rw[UN,Vv 1];exact hle) λh₂ CV ps hs₂ it₂ r₂=>Sx ?_));refine hQ h₂ CV (px::ps) (λb o hb e=>hs₂ b o hb (EM b o hb e)) (by rw[Vv k,←UN];exact it₂) ?_;rw[XO hi,List.take_succ_cons];exact⟨r₁.bg (it₁.le hs₂),r₂⟩
theorem MS{Q:Bool→Sl→Prop}(R:b.bY ω)(hv:VR ω v pv)(e:aO v ω.m=some bD)(hq:Q false ω.s):Sq b.P.M A (notIterableAtAll pv) Q X ω.s:=by
 cases v with
 |ref a=>
  obtain⟨xs,_,L⟩:=R.list (ai.fG e);rw[hv.2];exact Sm (XQ L.at_.typeIs slot_list_iter.lookup (Sx hq))
 |bJ l=>
  obtain⟨a,xs,rfl,ht,_⟩:=hv;exact Sm (XQ ht.typeIs aqY.lookup (Sx hq))
 |range lo hi=>
  obtain⟨a,t,u,w,rfl,hr,hsm⟩:=hv;exact Sm (XQ (T:="range") ⟨_,hr,rfl⟩ PySem.F.slot_range_iter.lookup (Sx hq))
 |_=>exact no e
theorem GI{Q:List Value→Sl→Prop}(H:zH A b.B)(R:b.bY ω)(hv:VR ω v pv)(e:aO v ω.m=some bD)
  (hQ:∀h' tk ps,(∀b o,ω.h.get? b=some o→h'.get? b=some o)→eF (ω.at {ω.s with heap:=h',toks:=tk}) bD ps→Q ps {ω.s with heap:=h',toks:=tk}):Sq b.P.M A (unpackItems pv bD.length none) Q X ω.s:=by
 unfold unpackItems;refine Sm (MS R hv e ?_);refine Sm (To (yp R hv e λo it=> ?_));have hI:b.B ω.h.objs.size=none:=fQ R.base (bU _);have R₁:b.bY (ω.at {ω.s with heap:=ω.h.push o}):=cZ.bH (cZ.push (tk:=ω.s.toks) o) R;refine Sm (To (Nt hI bD.length 0 _ _ R₁ it (Te (Uq _)) λh₂ CV ps hs₂ it₂ r₂=> ?_));rw[apk,WU] at r₂;rw[aJ (by rw[r₂.length];exact V5 _)];rw[Uq] at it₂;refine Sm (To (GR H hI (it.bH R₁ hI (s':={ω.s with heap:=h₂,toks:=CV}) hs₂) it₂ (Vc (SQ _)) λh₃ hs₃=> ?_));refine Sx (hQ h₃ CV ps (λb o' eo=> ?_) (r₂.bg (it₂.le (s':={ω.s with heap:=h₃,toks:=CV}) hs₃)));have hne:b≠ω.h.objs.size:=T9 (UG eo);exact hs₃ b o' hne (hs₂ b o' hne (S7 _ eo))
end
end
section
def WN(c:Cx)(xs:List Sv)(b:So):Prop:=b=c.env.locals∨ ∃x,x∈xs∧c.env.kindOf x=some .cell∧c.env.cells.lookup x=some b
structure nJ(W:So→Prop)(s s':Sl):Prop where
 keep:∀b o,s.heap.get? b=some o→¬W b→s'.heap.get? b=some o
 cls:∀b o,W b→s.heap.get? b=some o→P5 o→∃o',s'.heap.get? b=some o'∧P5 o'∧o'.cls=o.cls
 rest:lR s s'
section
variable{c:Cx}{aa:List V}{ω:Wd}{W:So→Prop}{s s' Fo:Sl}{xs:List Sv}{h h':S2}
theorem nJ.trans(a:nJ W s s')(b:nJ W s' Fo):nJ W s Fo:=⟨λx o e w=>b.keep x o (a.keep x o e w) w,λx o w e d=>
 let⟨o',e',d',c'⟩:=a.cls x o w e d;let⟨Jg,Oc,d'',c''⟩:=b.cls x o' w e' d'
 ⟨Jg,Oc,d'',c''.trans c'⟩,a.rest.trans b.rest⟩
theorem nJ.of(G:cZ s s'):nJ W s s':=⟨λb o e _=>G.keep b o e,λb o _ e d=>⟨o,G.keep b o e,d,rfl⟩,G.rest⟩
theorem nJ.aA{x:So}(k:Tn x s.heap s'.heap)(hw:W x)(hc:∀o,s.heap.get? x=some o→P5 o→∃o',s'.heap.get? x=some o'∧P5 o'∧o'.cls=o.cls)(hr:lR s s'):nJ W s s':=
 ⟨λb o e w=>k b o (λz=>w (z▸hw)) e,λb o w e d=>by
  by_cases z:b=x
  ·subst z;exact hc o e d
  ·exact⟨o,k b o z e,d,rfl⟩,hr⟩
theorem Jo{o:SK}(h1:∀vs,o.data≠ .fields vs)(h2:∀vs n,o.data≠ .seq vs n):Ec o:=⟨h1,λf=>f.elim (λ⟨_,vs,n,e⟩=>h2 vs n e) λ⟨_,vs,e⟩=>h1 vs e⟩
theorem sO{a:So}{ov:Option Value}(x:h.IsCell a ov):∃o,h.get? a=some o∧Ec o:=by obtain⟨o,ho,hd⟩:=x;exact⟨o,ho,Jo (λvs e=>nomatch hd.symm.trans e) λvs n e=>nomatch hd.symm.trans e⟩
theorem Gu{a:So}{mm:Sv→Option Value}(x:h.Ns a mm):∃o,h.get? a=some o∧Ec o:=by obtain⟨o,es,ep,ho,hd,_⟩:=x;exact⟨o,ho,Jo (λvs e=>nomatch hd.symm.trans e) λvs n e=>nomatch hd.symm.trans e⟩
theorem aX.own(F:aX c aa ω){b:So}(w:WN c xs b):¬ez ω b∧c.b.B b=none∧∃o,ω.h.get? b=some o∧Ec o:=by
 rcases w with rfl|⟨x,_,_,hc⟩
 ·obtain⟨mm,h1,_⟩:=F.ns
  exact⟨F.off.1,F.off.2,Gu h1⟩
 ·obtain⟨h1,h2,_,ov,h3⟩:=F.dP x b hc
  exact⟨h1,h2,sO h3⟩
theorem aX.ws(F:aX c aa ω):WS (WN c xs) ω.h:= λb w=>(F.own w).2.2
theorem aX.le(F:aX c aa ω)(k:nJ (WN c xs) ω.s s'):Le ω (ω.at s'):=⟨SQ _,λ_ _=>rfl,λb o e f=>k.keep b o e λw=>by obtain⟨_,_,o',e',sf⟩:=F.own w;cases e.symm.trans e';exact sf.2 f⟩
theorem bY.aaN(R:c.b.bY ω)(F:aX c aa ω)(k:nJ (WN c xs) ω.s s'):c.b.bY (ω.at s'):=R.bg λb o e q=>k.keep b o e λw=>by
 obtain⟨h1,h2,o',e',sf⟩:=F.own w;rcases q with q|q|q
 ·exact h1 q
 ·rw[h2] at q;exact gg q
 ·cases e.symm.trans e';exact sf.2 q
theorem nJ.ext{cF:List V}(k:nJ (WN c xs) ω.s s')(F':aX c cF (ω.at s')):fZ (WN c xs) ω (ω.at s'):=
 ⟨SQ _,λ_ _=>rfl,λ_ _=>⟨rfl,rfl⟩,λb o e _ w=>⟨o,k.keep b o e w,.inl rfl⟩,λ_=>F'.ws,λa h1 h2=>absurd h2 (TL.mpr h1),k.cls,k.rest⟩
theorem R2{nm:List (Sv×Nat)}:(nm.map (·.2)).Nodup→∀{p q:Sv×Nat},p∈nm→q∈nm→p.2=q.2→p=q:=by
 induction nm with
 |nil=>exactλ_ _ _ h=>nomatch h
 |cons r nm ih=>
  intro hn p q hp hq e;obtain⟨h1,h2⟩:=Ui.mp hn;rcases SO.mp hp with rfl|hp'<;>rcases SO.mp hq with rfl|hq'
  ·rfl
  ·exact absurd (show p.2∈nm.map (·.2) from SW.mpr ⟨q,hq',e.symm⟩) h1
  ·exact absurd (show q.2∈nm.map (·.2) from SW.mpr ⟨p,hp',e⟩) h1
  ·exact ih h2 hp' hq' e
theorem adj{nm:List (Sv×Nat)}(hn:(nm.map (·.2)).Nodup){x y:Sv}{k:Nat}(a:nm.lookup x=some k)(b:nm.lookup y=some k):x=y:=bk VX (R2 hn (mem_of_lookup a) (mem_of_lookup b) rfl)
theorem Be{k k':Nat}{v:V}(h:k≠k'):fj (aa.set k v) k'=fj aa k':=by unfold fj;rw[VU h]
theorem zm{k:Nat}{v v':V}(e:fj (aa.set k v) k=some v'):v'=v:=by
 refine aD e λa e1 e2=> ?_;obtain⟨h1,h2⟩:=Vq.mp e1;rw[List.getElem_set_self] at h2;subst h2;cases q:v.tL<;>rw[q] at e2
 ·exact(SN e2).symm
 ·exact no e2
theorem mE(inj:(c.nm.map (·.2)).Nodup){x y:Sv}{k k':Nat}{v v':V}(hn:c.nm.lookup x=some k)(hb:c.nm.lookup y=some k')(d:fj (aa.set k v) k'=some v'):(y=x∧v'=v)∨(y≠x∧fj aa k'=some v'):=by
 by_cases e:y=x
 ·subst e
  cases hn.symm.trans hb;exact .inl ⟨rfl,zm d⟩
 ·rw[Be (show k≠k' fromλz=>e (adj inj hb (z▸hn)))] at d
  exact .inr ⟨e,d⟩
theorem F8{P:PF}{A:S3}{X:Value→Sl→Prop}{env:SY}{x:Sv}{mm:Sv→Option Value}{v:Value}{Q:Unit→Sl→Prop}(hk:env.scope.kind=.function)(hl:env.kindOf x=some .local)(hn:s.heap.Ns env.locals mm)
  (hQ:∀h',h'.Ns env.locals (λy=>if y=x then some v else mm y)→U5 env.locals s.heap h'→(∀o,s.heap.get? env.locals=some o→∃o',h'.get? env.locals=some o'∧P5 o'∧o'.cls=o.cls)→Q () {s with heap:=h',toks:=s.toks+1}):
  Sq P.M A (YZ env x v) Q X s:=by
 rw[storeName_local hl (by rw[hk];rfl)];obtain⟨⟨c,d,dt,sl⟩,iL,ep,ho,hd,hs,hm⟩:=hn;cases hd;unfold nsSet;refine Sm (Sm (ao8 (Sx (Sm (ao9 (Sm (YN ho ?_)))))));dsimp only;have c0:(!iL.any (·.key.isStr x)&&iL.any (·.refKey))=false:=by rw[show iL.any (·.refKey)=false from apa.mpr λe he=>by obtain⟨k,t,hk⟩:=hs e he;unfold YM;rw[hk];exact Tc,V9]
 rw[apb,c0];refine apc ho ?_;obtain⟨es,q,e1,e4,_,e5⟩:=DT (ep:=ep) (name:=x) (hsh:=XH P.w.params x) (t:=s.toks) (v:=v) hs {cls:=c,dict:=d,data:= .plain,slots:=sl};have agI:(s.heap.update env.locals (XE x (XH P.w.params x) (.str x s.toks) v)).get? env.locals=some {cls:=c,dict:=d,data:= .dict es q,slots:=sl}:=
  (Ut _ ho (by rw[show XE _ _ _ _ _=_ from e1];exact Y0 rfl)).trans (bk some e1)
 exact hQ _ ⟨_,es,q,agI,rfl,e4,λy=>by rw[e5,hm]⟩ (U1 ..) λo Ea=>by cases ho.symm.trans Ea;exact⟨_,agI,⟨es,q,rfl⟩,rfl⟩
end
section
variable{c:Cx}{aa:List V}{ω:Wd}{xs:List Sv}{X:Value→Sl→Prop}
theorem Kx{x:Sv}{k:Nat}{v:V}{pv:Value}{mm:Sv→Option Value}{s':Sl}(hx:c.env.kindOf x=some .local)(inj:(c.nm.map (·.2)).Nodup)(hn:c.nm.lookup x=some k)(F:aX c aa ω)(L:Le ω (ω.at s'))(hv:VR ω v pv)
  (hm:∀x k v,c.env.kindOf x=some .local→c.nm.lookup x=some k→fj aa k=some v→∃pv,mm x=some pv∧VR ω v pv) (h1:s'.heap.Ns c.env.locals (λy=>if y=x then some pv else mm y)) (hs:U5 c.env.locals ω.h s'.heap):aX c (aa.set k v) (ω.at s') where
 ns:=⟨_,h1,λy k' v' a b d=>by
  rcases mE inj hn b d with⟨rfl,rfl⟩|⟨ne,d⟩
  ·exact⟨pv,aG rfl,hv.bg L⟩
  ·obtain⟨pw,p1,p2⟩:=hm y k' v' a b d
   exact⟨pw,(aJ ne).trans p1,p2.bg L⟩⟩
 cell y hy:=by
  obtain⟨a,ov,p1,p2,p3⟩:=F.cell y hy;refine⟨a,ov,p1,p2.sameBut hs (F.dP y a p1).2.2.1,λk' v' b d=> ?_⟩;rcases mE inj hn b d with⟨rfl,_⟩|⟨ne,d⟩
  ·rw[hx] at hy;exact hy.elim (λe=>nomatch e) λe=>nomatch e
  ·obtain⟨pw,q1,q2⟩:=p3 k' v' b d
   exact⟨pw,q1,q2.bg L⟩
 off:=F.off
 dP y a hc:=by obtain⟨p1,p2,p3,ov,p4⟩:=F.dP y a hc;exact⟨p1,p2,p3,ov,p4.sameBut hs p3⟩
 u0:=F.u0
theorem O1{x:Sv}{k:Nat}{v:V}{pv:Value}{a:So}{s':Sl}(hx:c.env.kindOf x=some .cell)(inj:(c.nm.map (·.2)).Nodup)(hn:c.nm.lookup x=some k)(F:aX c aa ω)(L:Le ω (ω.at s'))(hv:VR ω v pv)
  (ha:c.env.cells.lookup x=some a) (h1:s'.heap.IsCell a (some pv)) (hs:U5 a ω.h s'.heap):aX c (aa.set k v) (ω.at s') where
 ns:=by
  obtain⟨mm,h1,h2⟩:=F.ns;refine⟨mm,h1.sameBut hs (Tf (F.dP x a ha).2.2.1),λy k' v' e b d=> ?_⟩;rcases mE inj hn b d with⟨rfl,_⟩|⟨ne,d⟩
  ·exact nomatch hx.symm.trans e
  ·obtain⟨pw,q1,q2⟩:=h2 y k' v' e b d
   exact⟨pw,q1,q2.bg L⟩
 cell y hy:=by
  obtain⟨a',ov',q1,q2,q3⟩:=F.cell y hy;by_cases e:y=x
  ·subst e
   refine⟨a,some pv,ha,h1,λk' v' b d=> ?_⟩;cases hn.symm.trans b;cases zm d;exact⟨pv,rfl,hv.bg L⟩
  ·refine⟨a',ov',q1,q2.sameBut hs λz=>e (F.u0 y x a (z▸q1) ha),λk' v' b d=> ?_⟩
   rcases mE inj hn b d with⟨z,_⟩|⟨ne,d⟩
   ·exact absurd z e
   ·obtain⟨pw,r1,r2⟩:=q3 k' v' b d
    exact⟨pw,r1,r2.bg L⟩
 off:=F.off
 dP y a' hc:=by
  obtain⟨q1,q2,q3,ov',q4⟩:=F.dP y a' hc;refine⟨q1,q2,q3,?_⟩;by_cases z:a'=a
  ·subst z;exact⟨_,h1⟩
  ·exact⟨ov',q4.sameBut hs z⟩
 u0:=F.u0
abbrev Got(c:Cx)(xs:List Sv)(aa:List V)(ω:Wd)(Q:Unit→Sl→Prop):Prop:= ∀s',nJ (WN c xs) ω.s s'→aX c aa (ω.at s')→Q () s'
theorem nu{x:Sv}{k:Nat}{pv:Value}{v:V}{Q:Unit→Sl→Prop}(hk:c.env.scope.kind=.function)(hx:c.env.kindOf x=some .local∨c.env.kindOf x=some .cell)(hn:c.nm.lookup x=some k)(hxs:x∈xs)(inj:(c.nm.map (·.2)).Nodup)
  (F:aX c aa ω) (hv:VR ω v pv) (hQ:Got c xs (aa.set k v) ω Q):Sq c.b.P.M c.b.A (YZ c.env x pv) Q X ω.s:=by
 rcases hx with hx|hx
 ·obtain⟨mm,h1,h2⟩:=F.ns
  refine F8 hk hx h1 λh' h1' hs hcls=> ?_;have kp:nJ (WN c xs) ω.s {ω.s with heap:=h',toks:=ω.s.toks+1}:= .aA hs.extBut (.inl rfl) (λo e _=>hcls o e) rfl;exact hQ _ kp (Kx hx inj hn F (F.le kp) hv h2 h1' hs)
 ·obtain⟨a,ov,p1,p2,p3⟩:=F.cell x (.inl hx)
  refine wpAny_storeName_cell hk hx p1 p2 λh' p2' hs=> ?_;have kp:nJ (WN c xs) ω.s {ω.s with heap:=h'}:= .aA hs.extBut (.inr ⟨x,hxs,hx,p1⟩) (λo e d=>by obtain⟨o',e',q⟩:=p2;obtain⟨es,ep,d⟩:=d;cases e.symm.trans e';exact nomatch q.symm.trans d) rfl
  exact hQ _ kp (O1 hx inj hn F (F.le kp) hv p1 p2' hs)
end
end
section
noncomputable def e8:Su→List Su
 |.BoolOp _ l _=>l
 |.BinOp a _ b _=>[a,b]
 |.UnaryOp _ a _=>[a]
 |.IfExp c t e _=>[c,t,e]
 |.Dict ks vs _=>ks.filterMap id++vs
 |.ListComp e gs _ _=>e::gs.flatMap λg=>g.target::g.iter::g.ifs
 |.Compare a _ l _=>a::l
 |.Call f l _ _=>f::l
 |.Attribute a _ _=>[a]
 |.Subscript a s _=>[a,s]
 |.List l _=>l
 |.Tuple l _ _=>l
 |.Slice lo hi _ _=>lo.toList++hi.toList
 |_=>[]
noncomputable def HK:Su→Sv×Nat×WO×TY
 |.Name x _=>(x,0,.none,default)
 |.Constant c k _=>(SH "",k,c,default)
 |.Tuple _ k _=>(SH "",k,.none,default)
 |.ListComp _ _ s _=>(SH "",0,.none,s)
 |_=>(SH "",0,.none,default)
noncomputable def Ae(e:Su):Sv:=(HK e).1
noncomputable def zy(e:Su):Nat:=(HK e).2.1
noncomputable def Cf(e:Su):WO:=(HK e).2.2.1
noncomputable def i6(e:Su):TY:=(HK e).2.2.2
noncomputable def dR(i:Nat)(e:Su):Su:=(e8 e).getD i e
noncomputable def top(l:List Su):Su:=l.headD (.Name (SH "") default)
noncomputable def Nj(pe:Su):Su:= .Name (Ae pe) pe.pos
noncomputable def zX:nO→Su→Su
 |.aA _,pe=>Nj pe
 |.iJ _,pe=> .Tuple ((e8 pe).map Nj) (zy pe) pe.pos
noncomputable def Na:List Nat→List Su→List (Option Su)
 |[],_=>[]
 |k::ks,l=>some (.Constant (.str (SH (gE k))) (zy (top l)) (top l).pos)::Na ks l.tail
mutual
noncomputable def ig:E→Su→Su
 |.stuck,pe=>pe
 |.zv _,pe=>Nj pe
 |.zl _,pe=> .Constant (Cf pe) (zy pe) pe.pos
 |.dI g,pe=> .Name (SH g.name) pe.pos
 |.cW op a b,pe=> .BinOp (ig a (dR 0 pe)) (nN op) (ig b (dR 1 pe)) pe.pos
 |.cmp op a b,pe=> .Compare (ig a (dR 0 pe)) [N8 op] [ig b (dR 1 pe)] pe.pos
 |.not a,pe=> .UnaryOp .Not (ig a (dR 0 pe)) pe.pos
 |.neg a,pe=> .UnaryOp .USub (ig a (dR 0 pe)) pe.pos
 |.and es,pe=> .BoolOp .And (iI es (e8 pe)) pe.pos
 |.or es,pe=> .BoolOp .Or (iI es (e8 pe)) pe.pos
 |.ite c t e,pe=> .IfExp (ig c (dR 0 pe)) (ig t (dR 1 pe)) (ig e (dR 2 pe)) pe.pos
 |.nq a,pe=> .Compare (ig a (dR 0 pe)) [.IsNot] [.Constant .none (zy (dR 1 pe)) (dR 1 pe).pos] pe.pos
 |.vR a,pe=> .Compare (ig a (dR 0 pe)) [.Eq] [.List [] (dR 1 pe).pos] pe.pos
 |.attr x o,pe=> .Attribute (ig o (dR 0 pe)) x.str pe.pos
 |.idx o i,pe=> .Subscript (ig o (dR 0 pe)) (ig i (dR 1 pe)) pe.pos
 |.slice o lo hi,pe=> .Subscript (ig o (dR 0 pe)) (.Slice (iI lo (e8 (dR 1 pe))).head? (iI hi (e8 (dR 1 pe)).reverse).head? none (dR 1 pe).pos) pe.pos
 |.list es,pe=> .List (iI es (e8 pe)) pe.pos
 |.bJ es,pe=> .Tuple (iI es (e8 pe)) (zy pe) pe.pos
 |.pQ _,pe=> .Dict [] [] pe.pos
 |.dict ks vs,pe=> .Dict (Na ks (e8 pe)) (iI vs ((e8 pe).drop ks.length)) pe.pos
 |.comp t it cs el,pe=> .ListComp (ig el (dR 0 pe)) [⟨zX t (dR 1 pe),ig it (dR 2 pe),iI cs ((e8 pe).drop 3),0⟩] (i6 pe) pe.pos
 |.bi f args,pe=> .Call (.Name (SH f.name) (dR 0 pe).pos) (iI args (e8 pe).tail) [] pe.pos
 |.me f o args,pe=> .Call (.Attribute (ig o (dR 0 (dR 0 pe))) (SH f.name) (dR 0 pe).pos) (iI args (e8 pe).tail) [] pe.pos
 |.new c args,pe=> .Call (.Name (SH c.name) (dR 0 pe).pos) (iI args (e8 pe).tail) [] pe.pos
 |.call f args,pe=> .Call (.Name (SH f.qual) (dR 0 pe).pos) (iI args (e8 pe).tail) [] pe.pos
 |.aU f c x o args,pe=> .Call (.Attribute (ig o (dR 0 (dR 0 pe))) x.str (dR 0 pe).pos) (iI args (e8 pe).tail) [] pe.pos
noncomputable def iI:Es→List Su→List Su
 |.zn,_=>[]
 |.zc e es,l=>ig e (top l)::iI es l.tail
end
noncomputable def Aj(names:List (Sv×S5))(nm:List (Sv×Nat))(xs:List Sv)(k:Nat)(x:Sv):Bool:=nm.lookup x==some k&&(xs.contains x&&(names.lookup x==some .local||names.lookup x==some .cell))
noncomputable def Ie(names:List (Sv×S5))(nm:List (Sv×Nat))(xs:List Sv):List Nat→List Su→Bool
 |[],es=>es.isEmpty
 |k::ks,es=>match es with
  |[]=>false
  |e::es=>Aj names nm xs k (Ae e)&&Ie names nm xs ks es
noncomputable def zZ(names:List (Sv×S5))(nm:List (Sv×Nat))(xs:List Sv)(t:nO)(pe:Su):Bool:=match t with
 |.aA k=>Aj names nm xs k (Ae pe)
 |.iJ ks=>Ie names nm xs ks (e8 pe)
section
variable{c:Cx}{aa:List V}{ω:Wd}{xs:List Sv}{X:Value→Sl→Prop}
theorem xh{k:Nat}{x:Sv}(h:Aj c.env.scope.names c.nm xs k x=true):c.nm.lookup x=some k∧x∈xs∧(c.env.kindOf x=some .local∨c.env.kindOf x=some .cell):=by obtain⟨h1,h⟩:=Sn.mp h;obtain⟨h2,h⟩:=Sn.mp h;exact⟨eq_of_beq h1,List.contains_iff_mem.mp h2,((UA _ _).mp h).imp eq_of_beq eq_of_beq⟩
theorem rZ{x:Sv}{pos:SE}{k:Nat}{pv:Value}{v:V}{Q:Unit→Sl→Prop}(hk:c.env.scope.kind=.function)(hc:Aj c.env.scope.names c.nm xs k x=true)(inj:(c.nm.map (·.2)).Nodup)
  (F:aX c aa ω) (hv:VR ω v pv) (hQ:Got c xs (aa.set k v) ω Q):Sq c.b.P.M c.b.A (assign (.Name x pos) c.env pv) Q X ω.s:=by
 obtain⟨h1,h2,h3⟩:=xh hc;rw[arm_assign_Name];exact Sm (Uo (wpAny_bindName (nu hk h3 h1 h2 inj F hv hQ)))
theorem Ei(hk:c.env.scope.kind=.function)(inj:(c.nm.map (·.2)).Nodup):∀(ks:List Nat) (es:List Su) (vs:List V) (ps:List Value) (aa:List V) (ω:Wd) (Q:Unit→Sl→Prop),Ie c.env.scope.names c.nm xs ks es=true→vs.length=ks.length→
  aX c aa ω→eF ω vs ps→Got c xs (CE ks vs aa) ω Q→Sq c.b.P.M c.b.A (assignInOrder ((WV (es.map Nj) c.env).map (·.2)) ps) Q X ω.s:= λks=>by
 induction ks with
 |nil=>
  intro es vs ps aa ω Q hc hl F hv hQ;rw[Xj.mp hc];exact assignInOrder_nil (hQ ω.s (.of ⟨λ_ _ e=>e,rfl⟩) F)
 |cons k ks ih=>
  intro es vs ps aa ω Q hc hl F hv hQ;cases es with
  |nil=>exact gg hc
  |cons e es=>
   cases vs with
   |nil=>exact nomatch hl
   |cons v vs=>
    cases ps with
    |nil=>exact hv.elim
    |cons p ps=>
     obtain⟨hc1,hc2⟩:=Sn.mp hc;refine assignInOrder_cons (rZ hk hc1 inj F hv.1 λs' kp F'=> ?_);exact ih es vs ps _ (ω.at s') Q hc2 (VH hl) F' (hv.2.bg (F.le kp)) λFo kp' F''=>hQ Fo (kp.trans kp') F''
theorem Mu{ks:List Nat}:∀{es:List Su},Ie c.env.scope.names c.nm xs ks es=true→es.length=ks.length:=by
 induction ks with
 |nil=>exactλ{es} h=>by rw[Xj.mp h];rfl
 |cons k ks ih=>
  intro es h;cases es with
  |nil=>exact gg h
  |cons e es=>exact bk UE (ih (Sn.mp h).2)
theorem Ht(es:List Su):(WV (es.map Nj) c.env).length=es.length∧(WV (es.map Nj) c.env).findIdx? (·.1)=none:=by
 induction es with
 |nil=>exact⟨rfl,rfl⟩
 |cons e es ih=>
  refine⟨bk UE ih.1,?_⟩;show List.findIdx? (·.1) ((false,assign (Nj e) c.env)::WV (es.map Nj) c.env)=none;rw[List.findIdx?_cons,aJ Tc,ih.2];rfl
theorem rL{t:nO}{e:Su}{pv:Value}{v:V}{cF:List V}{Q:Unit→Sl→Prop}(H:zH c.b.A c.b.B)(hk:c.env.scope.kind=.function)(hc:zZ c.env.scope.names c.nm xs t e=true)(inj:(c.nm.map (·.2)).Nodup)
  (R:c.b.bY ω) (F:aX c aa ω) (hv:VR ω v pv) (hb:nA t v aa ω.m=some cF) (hQ:Got c xs cF ω Q):Sq c.b.P.M c.b.A (assign (zX t e) c.env pv) Q X ω.s:=by
 cases t with
 |aA k=>
  cases SN hb;exact rZ hk hc inj F hv hQ
 |iJ ks=>
  obtain⟨bD,hi,hb⟩:=bind_some hb;obtain⟨hlen,rfl⟩:=jF hb;obtain⟨e1,e2⟩:=Ht (c:=c) (e8 e);unfold zX;rw[arm_assign_Tuple];refine Sm (Uo ?_);unfold unpack;rw[e1,e2,Mu hc,←hlen];refine Sm (To (GI H R hv hi λh₁ tk₁ ps kp rs=> ?_));have G:cZ ω.s {ω.s with heap:=h₁,toks:=tk₁}:= .of kp;exact Ei hk inj ks (e8 e) bD ps aa (ω.at {ω.s with heap:=h₁,toks:=tk₁}) Q hc hlen (F.ext R G.ext) rs λs' kp' F'=>hQ s' ((nJ.of G).trans kp') F'
end
end
noncomputable def Bj(o:Option S5)(k:S5):S5:=if(k== .free&&o==some .cell) then .cell else k
noncomputable def wz(names outer:List (Sv×S5)):List (Sv×S5):=names.map λp=>(p.1,Bj (outer.lookup p.1) p.2)
theorem Ag{scope:TY}{env:SY}(hk:env.scope.kind=.function):(WW scope env).names=wz scope.names env.scope.names:=by unfold WW wz Bj;dsimp only;refine Tg λp _=> ?_;rw[hk,show(apl==apl)=true from rfl,V1];unfold Y3;cases(p.2==VK&&UB p.1 env.scope.names==some Vw)<;>rfl
theorem DN(outer names:List (Sv×S5))(x:Sv):(wz names outer).lookup x=(names.lookup x).map (Bj (outer.lookup x)):=by
 induction names with
 |nil=>rfl
 |cons p r ih=>
  show UB x ((p.1,_)::wz r outer)=_;rw[Tj,show UB x (p::r)=_ from Tj (k:=p.1) (b:=p.2)];cases hx:x==p.1 with
  |true=>rw[beq_iff_eq.mp hx];rfl
  |false=>exact ih
theorem jI{α:Type}{l:List (Sv×α)}{x:Sv}{a:α}(h:(x,a)∈l):∃b,l.lookup x=some b:=by
 induction l with
 |nil=>exact nomatch h
 |cons p r ih=>
  rw[show UB x (p::r)=_ from Tj (k:=p.1) (b:=p.2)];cases hx:x==p.1 with
  |true=>exact⟨_,rfl⟩
  |false=>
   rcases SO.mp h with e|h
   ·rw[←e,beq_self_eq_true] at hx;exact nomatch hx
   ·exact ih h
theorem kW{α:Type}{l:List (Sv×α)}{x:Sv}{a:α}(hn:(l.map (·.1)).Nodup)(h:(x,a)∈l):l.lookup x=some a:=by
 induction l with
 |nil=>exact nomatch h
 |cons p r ih=>
  obtain⟨h1,h2⟩:=Ui.mp hn;rw[show UB x (p::r)=_ from Tj (k:=p.1) (b:=p.2)];rcases SO.mp h with e|h
  ·rw[←e,beq_self_eq_true]
  ·rw[show(x==p.1)=false from beq_eq_false_iff_ne.mpr λz=>h1 (SW.mpr ⟨_,h,z⟩)]
   exact ih h2 h
theorem Ed{env:SY}:∀(names:List (Sv×S5)) (acc:List (Sv×So)),(∀p∈names,p.2=.free→∃c,env.cells.lookup p.1=some c)→
  ∃cl,(forIn names acc λ(x:Sv×S5) (cs:List (Sv×So))=>(do if x.2== .free then pure (UT ((x.1,←cellOf env x.1)::cs)) else pure (UT cs):SJ (ForInStep (List (Sv×So)))))=pure cl∧
   (∀x c,(x,c)∈cl→(x,c)∈acc∨((x,.free)∈names∧env.cells.lookup x=some c))∧(∀x,(x,.free)∈names→∃c,(x,c)∈cl)∧(∀p∈acc,p∈cl):= λnames=>by
 induction names with
 |nil=>exactλacc _=>⟨acc,Y4 ..,λx c h=> .inl h,λx h=>(nomatch h),λp h=>h⟩
 |cons q r ih=>
  intro acc hc;have hr:∀p∈r,p.2=.free→∃c,env.cells.lookup p.1=some c:= λp hp=>hc p (S0 _ hp);rw[VL];by_cases hk:q.2=.free
  ·obtain⟨a,ha⟩:=hc q SI hk
   obtain⟨cl,h1,h2,h3,h4⟩:=ih ((q.1,a)::acc) hr;rw[hk,show(VK==VK)=true from rfl,aG rfl,show cellOf env q.1=pure a by unfold cellOf;rw[ha]];refine⟨cl,h1,λx c h=> ?_,λx h=> ?_,λp hp=>h4 p (S0 _ hp)⟩
   ·rcases h2 x c h with h|h
    ·rcases SO.mp h with e|h
     ·cases e;exact .inr ⟨hk▸SI,ha⟩
     ·exact .inl h
    ·exact .inr ⟨S0 _ h.1,h.2⟩
   ·rcases SO.mp h with e|h
    ·exact⟨a,h4 _ (e▸SI)⟩
    ·exact h3 x h
  ·obtain⟨cl,h1,h2,h3,h4⟩:=ih acc hr
   rw[show(q.2==VK)=false from beq_eq_false_iff_ne.mpr hk,aJ Tc];refine⟨cl,h1,λx c h=>(h2 x c h).imp id λh=>⟨S0 _ h.1,h.2⟩,λx h=> ?_,h4⟩;rcases SO.mp h with e|h
   ·exact absurd (bk apm e).symm hk
   ·exact h3 x h
theorem qc{scope:TY}{env:SY}(hc:∀p∈scope.names,p.2=.free→∃c,env.cells.lookup p.1=some c):
  ∃cl,closureFor scope env=pure cl∧(∀x c,(x,c)∈cl→(x,.free)∈scope.names∧env.cells.lookup x=some c)∧(∀x,(x,.free)∈scope.names→∃c,(x,c)∈cl):=by
 obtain⟨cl,h1,h2,h3,_⟩:=Ed (env:=env) scope.names [] hc;refine⟨cl,?_,λx c h=>(h2 x c h).elim (λh=>nomatch h) id,h3⟩
 unfold closureFor;refine WX ?_ (bk (· >>=pure) h1|>.trans (by rw[bind_pure]))
 congr 1
theorem lN(n:Nat)(x:Sv)(k:S5)(r:List (Sv×S5))(acc:List (Sv×So)):Td n ((x,k)::r) acc=if k== .cell then Td (n+1) r ((x,n)::acc) else Td n r acc:=rfl
theorem rz(names:List (Sv×S5)):∀(n:Nat) (acc:List (Sv×So)),Td n names acc=Td n names []++acc:=by
 induction names with
 |nil=>exactλn acc=>rfl
 |cons p r ih=>
  intro n acc;rw[lN n p.1,lN n p.1];cases p.2==Vw with
  |true=>rw[aG rfl,aG rfl,ih _ (_::acc),ih _ [_],Ud];rfl
  |false=>rw[aJ Tc,aJ Tc];exact ih n acc
theorem m5(n:Nat)(x:Sv)(k:S5)(r:List (Sv×S5)):(k=.cell∧Td n ((x,k)::r) []=Td (n+1) r []++[(x,n)])∨(k≠ .cell∧Td n ((x,k)::r) []=Td n r []):=by
 rw[lN];by_cases h:k=.cell
 ·exact .inl ⟨h,by rw[h,aG (show(Vw==Vw)=true from rfl),rz]⟩
 ·exact .inr ⟨h,aJ λz=>h (eq_of_beq z)⟩
theorem rq{x:Sv}{a:So}(names:List (Sv×S5)):∀n:Nat,(x,a)∈Td n names []→(x,.cell)∈names:=by
 induction names with
 |nil=>exactλn h=>nomatch h
 |cons p r ih=>
  intro n h;rcases m5 n p.1 p.2 r with⟨hk,e⟩|⟨hk,e⟩
  ·rw[show Td n (p::r) []=_ from e] at h
   rcases TQ.mp h with h|h
   ·exact S0 _ (ih _ h)
   ·rw[show x=p.1 from bk VX (Tp.mp h),←hk];exact SI
  ·rw[show Td n (p::r) []=_ from e] at h
   exact S0 _ (ih _ h)
theorem q9{x:Sv}(names:List (Sv×S5)):∀n:Nat,(x,.cell)∈names→∃a,(x,a)∈Td n names []:=by
 induction names with
 |nil=>exactλn h=>nomatch h
 |cons p r ih=>
  intro n h;rcases m5 n p.1 p.2 r with⟨hk,e⟩|⟨hk,e⟩
  ·rw[show Td n (p::r) []=_ from e]
   rcases SO.mp h with z|h
   ·exact⟨n,Vm _ (by rw[←z];exact List.mem_singleton_self _)⟩
   ·obtain⟨a,ha⟩:=ih (n+1) h
    exact⟨a,Vn _ ha⟩
  ·rw[show Td n (p::r) []=_ from e]
   rcases SO.mp h with z|h
   ·exact absurd (bk apm z).symm hk
   ·exact ih n h
theorem wD(names:List (Sv×S5)):∀n:Nat,(names.map (·.1)).Nodup→((Td n names []).map (·.1)).Nodup:=by
 induction names with
 |nil=>exactλn _=>Vl
 |cons p r ih=>
  intro n h;obtain⟨h1,h2⟩:=Ui.mp h;rcases m5 n p.1 p.2 r with⟨hk,e⟩|⟨hk,e⟩
  ·rw[show Td n (p::r) []=_ from e,TA,We]
   refine⟨ih _ h2,Ui.mpr ⟨(λh=>nomatch h),Vl⟩,λa ha b hb z=> ?_⟩
   obtain⟨q,hq,rfl⟩:=SW.mp ha;rw[Tp.mp hb] at z;exact h1 (SW.mpr ⟨_,rq r _ hq,z⟩)
  ·rw[show Td n (p::r) []=_ from e];exact ih n h2
theorem GB{M:Vp}{A:S3}{s:Sl}{X:Value→Sl→Prop}{scope:TY}{globals:So}{cl:List (Sv×So)}{qual:Sv}{outer:SY}{Q:SY→Sl→Prop}
  (hQ:∀h',(∀b o,s.heap.get? b=some o→h'.get? b=some o)→(∃mm,h'.Ns s.heap.objs.size mm)→(∀x a,(x,a)∈Td (s.heap.objs.size+1) scope.names []→(∃ov,h'.IsCell a ov)∧s.heap.objs.size+1≤a)→
   ((Td (s.heap.objs.size+1) scope.names []).Pairwise λx y=>x.2≠y.2)→
   Q {scope,locals:=s.heap.objs.size,globals,cells:=Td (s.heap.objs.size+1) scope.names []++cl,qual,func:=none,code:=outer.code,frame:=outer.frame,builtins:=outer.builtins} {s with heap:=h'}):
  Sq M A (WY scope globals cl [] qual none .none (some outer)) Q X s:=by
 simp only[WY,Option.isSome_some,if_true];refine Sm (Y5 ?_);refine Sm (apn _ (λname kind cells=>by cases hkc:kind==Vw<;>simp[hkc]) _ _ _ _ ?_)
 have ok:=apo scope.names (s.heap.push {cls:= .type "dict",data:= .dict #[]}) (s.heap.objs.size+1) [] ⟨λ_ _ hm=>(nomatch hm),WZ⟩ (by rw[Uj];exact SQ _)
 rw[Uj] at ok;rw[show({s with heap:=s.heap.push {cls:= .type "dict",data:= .dict #[]}}:Sl).heap.objs.size=s.heap.objs.size+1 from Uj ..,rz];rw[Y4];refine Sm (Sx (Sx ?_));refine hQ _ (λb o e=>W2 _ _ b o (S7 _ e)) ⟨_,(apq s.heap (.type "dict")).keeps (W2 _ _)⟩ (λx a ha=> ?_) ok.apart;obtain⟨h1,h2⟩:=ok.empty x a ha;exact⟨⟨_,h1⟩,h2⟩
noncomputable def nO.slots:nO→List Nat
 |.aA k=>[k]
 |.iJ ks=>ks
theorem Qs{aa:List V}{k:Nat}{v:V}(e:fj aa k=some v):v≠ .af:=by
 refine aD e λa e1 e2=> ?_;cases q:a.tL<;>rw[q] at e2
 ·rintro rfl;rw[SN e2] at q;exact nomatch q
 ·exact no e2
theorem tP{k:Nat}{v:V}(ks:List Nat):∀{aa:List V},fj (cC ks aa) k=some v→k∉ks∧fj aa k=some v:=by
 induction ks with
 |nil=>exactλ{aa} e=>⟨(λh=>nomatch h),e⟩
 |cons j ks ih=>
  intro aa e;obtain⟨h1,h2⟩:=ih (aa:=aa.set j .af) e;have hne:j≠k:= λz=>by subst z;exact Qs h2 (zm h2)
  exact⟨λh=>(SO.mp h).elim (λz=>hne z.symm) h1,(Be hne).symm.trans h2⟩
theorem Gq{j:Nat}(ks:List Nat):∀(aa:List V),j∉ks→(cC ks aa)[j]? =aa[j]? :=by
 induction ks with
 |nil=>exactλ_ _=>rfl
 |cons k ks ih=>exactλaa h=>(ih (aa.set k .af) λz=>h (S0 _ z)).trans (VU λz:k=j=>h (z▸SI))
theorem Oz(ks:List Nat):∀(aa:List V),(cC ks aa).length=aa.length:=by
 induction ks with
 |nil=>exactλ_=>rfl
 |cons k ks ih=>exactλaa=>(ih (aa.set k .af)).trans Wx
theorem Gi(ks:List Nat):∀(ls a b:List V),a.length=b.length→ks.length=ls.length→(∀j,j∉ks→a[j]? =b[j]?)→CE ks ls a=CE ks ls b:=by
 induction ks with
 |nil=>exactλls a b _ _ h=>Yp λj=>h j λz=>nomatch z
 |cons k ks ih=>
  intro ls a b hl hk h;cases ls with
  |nil=>exact nomatch hk
  |cons v ls=>
   refine ih ls (a.set k v) (b.set k v) (by rw[Wx,Wx,hl]) (VH hk) λj hj=> ?_;by_cases c:k=j
   ·subst c
    rw[apr,apr,hl,aG rfl,aG rfl]
   ·rw[VU c,VU c]
    exact h j λz=>(SO.mp z).elim (λz=>c z.symm) hj
theorem HC{t:nO}{x:V}{aa:List V}{m:ai}:nA t x (cC t.slots aa) m=nA t x aa m:=by
 cases t with
 |aA k=>exact bk some (List.set_set ..)
 |iJ ks=>
  refine bk (Option.bind (aO x m)) (funext λl=> ?_);unfold aZ;by_cases hl:l.length=ks.length
  ·rw[aG hl,aG hl]
   exact bk some (Gi ks l _ _ (Oz ks aa) hl.symm λj hj=>Gq ks aa hj)
  ·rw[aJ hl,aJ hl]
section
structure Cp where
 c:Cx
 ω₀:Wd
 C:So
 nc:List (Sv×So)
 I:So
 D:So
 v:V
 pv:Value
 bD:List V
noncomputable abbrev Cp.b(p:Cp):Bx:=p.c.b
def Cp.own(p:Cp)(a:So):Prop:=a=p.I∨a=p.D∨a=p.C∨ ∃x,(x,a)∈p.nc
structure Cp.Ok(p:Cp):Prop where
 fresh:∀a,p.own a→p.ω₀.h.get? a=none∧p.b.B a=none
 ID:p.I≠p.D
 IC:p.I≠p.C
 DC:p.D≠p.C
 cells:∀x a,(x,a)∈p.nc→a≠p.I∧a≠p.D∧a≠p.C
 apart:p.nc.Pairwise λx y=>x.2≠y.2
structure Cp.St(p:Cp)(i:Nat)(ys:List V)(ω:Wd):Prop where
 bH:p.b.bY ω
 ext:fZ W0 p.ω₀ ω
 it:lH ω p.v p.pv p.bD p.I i
 ns:∃mm,ω.h.Ns p.C mm
 cell:∀x a,(x,a)∈p.nc→∃ov,ω.h.IsCell a ov
 acc:∃ps,ω.h.PlainList p.D ps∧eF ω ys ps.toList
 nf:∀a,p.own a→¬ez ω a
 len:ys.length≤i
section
variable{p:Cp}{i:Nat}{ys:List V}{ω ω':Wd}{s':Sl}
theorem Cp.St.live(S:p.St i ys ω){a:So}(ha:p.own a):∃o,ω.h.get? a=some o∧¬jR o:=by
 rcases ha with rfl|rfl|rfl|⟨x,ha⟩
 ·obtain⟨o,e,q⟩:=S.it.it.obj;exact⟨o,e,q.gI⟩
 ·obtain⟨ps,⟨k,e⟩,_⟩:=S.acc;exact⟨_,e,gI (.inl rfl)⟩
 ·obtain⟨mm,e⟩:=S.ns;obtain⟨o,e,q⟩:=Gu e;exact⟨o,e,q.2⟩
 ·obtain⟨ov,e⟩:=S.cell x a ha;obtain⟨o,e,q⟩:=sO e;exact⟨o,e,q.2⟩
theorem Cp.St.step(S:p.St i ys ω)(X:fZ W0 ω ω')(R:p.b.bY ω')(e:aO p.v ω'.m=some p.bD):p.St i ys ω' where
 bH:=R
 ext:=S.ext.trans S.bH .none X
 it:=S.it.keep (X.PB S.bH) e λo eo=>by obtain⟨oI,RZ,q⟩:=S.it.it.obj;cases RZ.symm.trans eo;obtain⟨o',e',s⟩:=X.keep _ o RZ (S.nf _ (.inl rfl)) id;rw[e',q.yq s]
 ns:=by obtain⟨mm,o,es,ep,ho,hd,r⟩:=S.ns;obtain⟨o',e',s⟩:=X.keep _ o ho (S.nf _ (.inr (.inr (.inl rfl)))) id;exact⟨mm,o',es,ep,e',s.data.trans hd,r⟩
 cell x a ha:=by obtain⟨ov,o,ho,hd⟩:=S.cell x a ha;obtain⟨o',e',s⟩:=X.keep _ o ho (S.nf _ (.inr (.inr (.inr ⟨x,ha⟩)))) id;exact⟨ov,o',e',s.data.trans hd⟩
 acc:=by obtain⟨ps,⟨k,e1⟩,e2⟩:=S.acc;obtain⟨o',e',s⟩:=X.keep _ _ e1 (S.nf _ (.inr (.inl rfl))) id;exact⟨ps,⟨k,by rw[e',s.exact (iZ (by decide))]⟩,e2.bg (X.PB S.bH)⟩
 nf a ha f:=by obtain⟨o,eo,_⟩:=S.live ha;exact S.nf a ha (X.JU eo f)
 len:=S.len
structure Cp.P4(p:Cp)(s s':Sl):Prop where
 keep:∀b o,s.heap.get? b=some o→¬p.own b→s'.heap.get? b=some o
 rest:lR s s'
theorem Cp.P4.aA{s s':Sl}{x:So}(k:Tn x s.heap s'.heap)(hx:p.own x)(hr:lR s s'):p.P4 s s':=⟨λb o e n=>k b o (λz=>n (z▸hx)) e,hr⟩
theorem Cp.St.le(S:p.St i ys ω)(O:p.P4 ω.s s'):Le ω (ω.at s'):=⟨SQ _,λ_ _=>rfl,λb o e f=>O.keep b o e λw=>by obtain⟨o',e',q⟩:=S.live w;cases e.symm.trans e';exact q f⟩
theorem Cp.St.ahw(F:p.Ok)(S:p.St i ys ω)(O:p.P4 ω.s s'):p.b.bY (ω.at s'):=S.bH.bg λb o e q=>O.keep b o e λw=>by
 rcases q with q|q|q
 ·exact S.nf b w q
 ·rw[(F.fresh b w).2] at q;exact gg q
 ·obtain⟨o',e',q'⟩:=S.live w
  cases e.symm.trans e';exact q' q
theorem Cp.St.afU(F:p.Ok)(S:p.St i ys ω)(O:p.P4 ω.s s'):fZ W0 p.ω₀ (ω.at s') where
 len:=S.ext.len
 live:=S.ext.live
 loc:=S.ext.loc
 keep b o e f w:=by obtain⟨o',e',s⟩:=S.ext.keep b o e f w;exact⟨o',O.keep b o' e' λz=>no ((F.fresh b z).1.symm.trans e),s⟩
 soft _:= .none
 new:=S.ext.new
 cls _ _ z:=z.elim
 rest:=S.ext.rest.trans O.rest
theorem Cp.St.turn(F:p.Ok)(S:p.St i ys ω){j:Nat}{zs:List V}(O:p.P4 ω.s s')(it:wc (ω.at s') p.pv p.I j p.v)(ns:∃mm,s'.heap.Ns p.C mm)(cell:∀x a,(x,a)∈p.nc→∃ov,s'.heap.IsCell a ov)
  (acc:∃ps,s'.heap.PlainList p.D ps∧eF (ω.at s') zs ps.toList) (len:zs.length≤j):p.St j zs (ω.at s'):=
 ⟨S.ahw F O,S.afU F O,⟨S.it.val.bg (S.le O),S.it.items,it⟩,ns,cell,acc,S.nf,len⟩
theorem Cp.St.acF(S:p.St i ys ω)(k:∀o,ω.h.get? p.C=some o→s'.heap.get? p.C=some o):∃mm,s'.heap.Ns p.C mm:=by obtain⟨mm,o,es,ep,ho,r⟩:=S.ns;exact⟨mm,o,es,ep,k o ho,r⟩
theorem Cp.St.M7(S:p.St i ys ω)(k:∀x a o,(x,a)∈p.nc→ω.h.get? a=some o→s'.heap.get? a=some o):∀x a,(x,a)∈p.nc→∃ov,s'.heap.IsCell a ov:= λx a ha=>by obtain⟨ov,o,ho,hd⟩:=S.cell x a ha;exact⟨ov,o,k x a o ha ho,hd⟩
theorem Cp.St.next(F:p.Ok)(S:p.St i ys ω)(k:Tn p.I ω.h s'.heap)(hr:lR ω.s s')(it:wc (ω.at s') p.pv p.I (i+1) p.v):p.St (i+1) ys (ω.at s'):=by have O:p.P4 ω.s s':= .aA k (.inl rfl) hr;refine S.turn F O it (S.acF λo e=>k _ o (Tf F.IC) e) (S.M7 λx a o ha e=>k _ o (F.cells x a ha).1 e) ?_ (Th S.len);obtain⟨ps,⟨q,e1⟩,e2⟩:=S.acc;exact⟨ps,⟨q,k _ _ (Tf F.ID) e1⟩,e2.bg (S.le O)⟩
theorem Cp.St.mE(F:p.Ok)(S:p.St i ys ω)(k:∀b o,ω.h.get? b=some o→b≠p.C→(∀x,(x,b)∉p.nc)→s'.heap.get? b=some o)(hr:lR ω.s s')(ns:∃mm,s'.heap.Ns p.C mm)(cell:∀x a,(x,a)∈p.nc→∃ov,s'.heap.IsCell a ov):p.St i ys (ω.at s'):=by have O:p.P4 ω.s s':=⟨λb o e n=>k b o e (λz=>n (.inr (.inr (.inl z)))) λx hx=>n (.inr (.inr (.inr ⟨x,hx⟩))),hr⟩;refine S.turn F O (S.it.it.keep (λ_ _=>rfl) λo e=>k _ o e F.IC λx hx=>(F.cells x _ hx).1 rfl) ns cell ?_ S.len;obtain⟨ps,⟨q,e1⟩,e2⟩:=S.acc;exact⟨ps,⟨q,k _ _ e1 F.DC λx hx=>(F.cells x _ hx).2.1 rfl⟩,e2.bg (S.le O)⟩
theorem Cp.St.add(F:p.Ok)(S:p.St (i+1) ys ω)(hlen:ys.length≤i){ps:Array Value}{x:V}{px:Value}(h2:eF ω ys ps.toList)(r:VR ω x px)(h3:s'.heap.PlainList p.D (ps.push px))(k:Tn p.D ω.h s'.heap)(hr:lR ω.s s'):p.St (i+1) (ys++[x]) (ω.at s'):=by have O:p.P4 ω.s s':= .aA k (.inr (.inl rfl)) hr;refine S.turn F O (S.it.it.keep (λ_ _=>rfl) λo e=>k _ o F.ID e) (S.acF λo e=>k _ o (Tf F.DC) e) (S.M7 λx a o ha e=>k _ o (F.cells x a ha).2.1 e) ⟨_,h3,?_⟩ (by rw[S4];exact TZ hlen);rw[aoV];exact eF.append (show eF _ [x] [px] from⟨r.bg (S.le O),rfl⟩) (h2.bg (S.le O))
end
noncomputable def Mm(names:List (Sv×S5))(nm tn:List (Sv×Nat))(p:Sv×S5):Bool:=match p.2 with
 |.local=>(tn.lookup p.1).isSome||((tn++nm).lookup p.1).isNone
 |.cell=>(tn.lookup p.1).isSome
 |.free=>(tn.lookup p.1).isNone&&(names.lookup p.1==some .cell||names.lookup p.1==some .free)
 |_=>true
noncomputable def Fb(names:List (Sv×S5))(nm:List (Sv×Nat))(scope:TY)(tn:List (Sv×Nat)):Bool:=
 (scope.kind== .function&&decide ((scope.names.map (·.1)).Nodup))&&(decide (((tn++nm).map (·.2)).Nodup)&&scope.names.all (Mm names nm tn))
structure sr(names:List (Sv×S5))(nm:List (Sv×Nat))(scope:TY)(tn:List (Sv×Nat)):Prop where
 kind:scope.kind=.function
 nd:(scope.names.map (·.1)).Nodup
 inj:((tn++nm).map (·.2)).Nodup
 loc:∀x,scope.names.lookup x=some .local→(tn.lookup x).isSome=true∨(tn++nm).lookup x=none
 cell:∀x,scope.names.lookup x=some .cell→(tn.lookup x).isSome=true
 free:∀x,(x,VK)∈scope.names→tn.lookup x=none∧(names.lookup x=some .cell∨names.lookup x=some .free)
theorem DL{names:List (Sv×S5)}{nm:List (Sv×Nat)}{scope:TY}{tn:List (Sv×Nat)}(h:Fb names nm scope tn=true):sr names nm scope tn:=by
 obtain⟨h1,h2⟩:=Sn.mp h;obtain⟨a,b⟩:=Sn.mp h1;obtain⟨c,d⟩:=Sn.mp h2;have key:∀x k,(x,k)∈scope.names→Mm names nm tn (x,k)=true:= λx k hx=>S9.mp d _ hx;exact⟨eq_of_beq a,of_decide_eq_true b,of_decide_eq_true c,λx hx=>((UA _ _).mp (key x _ (mem_of_lookup hx))).imp id YW.mp,λx hx=>key x _ (mem_of_lookup hx),λx hx=>
  have q:=Sn.mp (key x _ hx)
  ⟨YW.mp q.1,((UA _ _).mp q.2).imp eq_of_beq eq_of_beq⟩⟩
end
section
structure iT where
 p:Cp
 scope:TY
 tn:List (Sv×Nat)
 t:nO
 cl:List (Sv×So)
 env:SY
structure iT.Ok(f:iT):Prop where
 p:f.p.Ok
 kind:f.p.c.env.scope.kind=.function
 sf:sr f.p.c.env.scope.names f.p.c.nm f.scope f.tn
 ht:f.tn.map (·.2)=f.t.slots
 cl:∀x a,(x,a)∈f.cl→(x,.free)∈f.scope.names∧f.p.c.env.cells.lookup x=some a
 cl':∀x,(x,.free)∈f.scope.names→∃a,(x,a)∈f.cl
 nc:∃n,f.p.nc=Td n f.scope.names []
 sc:f.env.scope=WW f.scope f.p.c.env
 loc:f.env.locals=f.p.C
 cells:f.env.cells=f.p.nc++f.cl
noncomputable abbrev iT.c(f:iT):Cx:={f.p.c with env:=f.env,nm:=f.tn++f.p.c.nm}
theorem G4{o:Option S5}{k:S5}(h:Bj o k=.local):k=.local:=by
 unfold Bj at h;cases q:(k==VK&&o==some Vw)<;>rw[q] at h
 ·exact h
 ·exact nomatch h
theorem J8{o:Option S5}{k:S5}(h:Bj o k=.cell∨Bj o k=.free):k=.cell∨k=.free:=by
 unfold Bj at h;cases q:(k==VK&&o==some Vw)<;>rw[q] at h
 ·exact h
 ·exact .inr (eq_of_beq (Sn.mp q).1)
section
variable{f:iT}{x y:Sv}{k i:Nat}{a:So}{u:V}{aa ys:List V}{ω:Wd}
theorem iT.Ok.names(h:f.Ok):f.env.scope.names=wz f.scope.names f.p.c.env.scope.names:=by rw[h.sc,Ag h.kind]
theorem iT.Ok.aa3(h:f.Ok):f.env.kindOf x=(f.scope.names.lookup x).map (Bj (f.p.c.env.scope.names.lookup x)):=by show f.env.scope.names.lookup x=_;rw[h.names,DN]
theorem iT.Ok.aaQ(h:f.Ok)(e:f.env.kindOf x=some .local):f.scope.names.lookup x=some .local:=by rw[h.aa3] at e;obtain⟨k,e1,e2⟩:=map_some e;rw[e1,G4 e2]
theorem iT.Ok.ad6(h:f.Ok)(e:f.env.kindOf x=some .cell∨f.env.kindOf x=some .free):f.scope.names.lookup x=some .cell∨f.scope.names.lookup x=some .free:=by
 rw[h.aa3] at e;cases q:f.scope.names.lookup x with
 |none=>rw[q] at e;exact e.elim (λz=>nomatch z) λz=>nomatch z
 |some k=>
  rw[q] at e;rcases J8 (e.imp SN SN) with rfl|rfl
  ·exact .inl rfl
  ·exact .inr rfl
theorem iT.Ok.look(h:f.Ok):f.env.cells.lookup x=(f.p.nc.lookup x).or (f.cl.lookup x):=by rw[h.cells,Y6]
theorem iT.Ok.src(h:f.Ok)(e:f.env.cells.lookup x=some a):(x,a)∈f.p.nc∨((x,.free)∈f.scope.names∧f.p.c.env.cells.lookup x=some a):=by
 rw[h.look] at e;cases q:f.p.nc.lookup x with
 |some b=>rw[q] at e;cases e;exact .inl (mem_of_lookup q)
 |none=>rw[q] at e;exact .inr (h.cl x a (mem_of_lookup e))
theorem iT.Ok.Rk(h:f.Ok){C:Prop}(h1:(f.tn.lookup x).isSome=true)(h2:(f.tn++f.p.c.nm).lookup x=some k)(h3:fj (cC f.t.slots aa) k=some u):C:=by obtain⟨k',PZ⟩:=Y7.mp h1;rw[Y6,PZ,Option.some_or] at h2;cases h2;exact absurd (h.ht▸SW.mpr ⟨_,mem_of_lookup PZ,rfl⟩) (tP _ h3).1
theorem iT.Ok.aeA(h:f.Ok)(e:f.scope.names.lookup x=some .free):f.p.nc.lookup x=none:=by
 cases q:f.p.nc.lookup x with
 |none=>rfl
 |some z=>
  obtain⟨n,hn⟩:=h.nc;exact nomatch (kW h.sf.nd (rq _ _ (hn▸mem_of_lookup q))).symm.trans e
theorem iT.Ok.Ez(F:aX f.p.c aa f.p.ω₀)(e:f.p.c.env.cells.lookup x=some a):∃o,f.p.ω₀.h.get? a=some o:=by obtain⟨_,_,_,ov,q⟩:=F.dP _ _ e;obtain⟨o,q,_⟩:=sO q;exact⟨o,q⟩
theorem iT.Ok.ns(h:f.Ok)(S:f.p.St i ys ω):∃mm,ω.h.Ns f.env.locals mm∧∀x k v,f.env.kindOf x=some .local→(f.tn++f.p.c.nm).lookup x=some k→fj (cC f.t.slots aa) k=some v→∃pv,mm x=some pv∧VR ω v pv:=by
 obtain⟨mm,q⟩:=S.ns;refine⟨mm,h.loc.symm▸q,λx k u hx hn hv=> ?_⟩;rcases h.sf.loc x (h.aaQ hx) with h1|h1
 ·exact h.Rk h1 hn hv
 ·exact no (h1.symm.trans hn)
theorem iT.Ok.cell(h:f.Ok)(F:aX f.p.c aa ω)(S:f.p.St i ys ω)(hx:f.env.kindOf x=some .cell∨f.env.kindOf x=some .free):∃a ov,f.env.cells.lookup x=some a∧ω.h.IsCell a ov∧
  ∀k v,(f.tn++f.p.c.nm).lookup x=some k→fj (cC f.t.slots aa) k=some v→∃pv,ov=some pv∧VR ω v pv:=by
 rcases h.ad6 hx with e|e
 ·obtain⟨n,hn⟩:=h.nc
  obtain⟨a,ha⟩:=q9 f.scope.names n (mem_of_lookup e);obtain⟨b,hb⟩:=jI (hn.symm▸ha);obtain⟨ov,hov⟩:=S.cell x b (mem_of_lookup hb);exact⟨b,ov,by rw[h.look,hb];rfl,hov,λk u hn hv=>h.Rk (h.sf.cell x e) hn hv⟩
 ·have hm:=mem_of_lookup e
  obtain⟨a,ha⟩:=h.cl' x hm;obtain⟨b,hb⟩:=jI ha;obtain⟨q1,q2⟩:=h.sf.free x hm;obtain⟨c',ov,p1,p2,p3⟩:=F.cell x q2;cases(h.cl x b (mem_of_lookup hb)).2.symm.trans p1;refine⟨b,ov,by rw[h.look,h.aeA e];exact hb,p2,λk u hn hv=> ?_⟩;rw[Y6,q1] at hn;exact p3 k u hn (tP _ hv).2
theorem iT.Ok.frame(h:f.Ok){agu:List V}(F₀:aX f.p.c agu f.p.ω₀)(F:aX f.p.c aa ω)(S:f.p.St i ys ω):aX f.c (cC f.t.slots aa) ω where
 ns:=h.ns S
 cell _ hx:=h.cell F S hx
 off:=by show¬ez ω f.env.locals∧_;rw[h.loc];exact⟨S.nf _ (.inr (.inr (.inl rfl))),(h.p.fresh _ (.inr (.inr (.inl rfl)))).2⟩
 dP x a hx:=by
  have ow:∀{x},(x,a)∈f.p.nc→f.p.own a:= λq=> .inr (.inr (.inr ⟨_,q⟩));show _∧_∧a≠f.env.locals∧_;rw[h.loc];rcases h.src hx with h1|⟨_,h1⟩
  ·exact⟨S.nf a (ow h1),(h.p.fresh a (ow h1)).2,(h.p.cells x a h1).2.2,S.cell x a h1⟩
  ·obtain⟨p1,p2,p3,p4⟩:=F.dP x a h1
   refine⟨p1,p2,λz=> ?_,p4⟩;obtain⟨o,q⟩:=Ez F₀ h1;exact no ((h.p.fresh f.p.C (.inr (.inr (.inl rfl)))).1.symm.trans (z▸q))
 u0 x y a hx hy:=by
  have fr:∀{x y},(x,a)∈f.p.nc→f.p.c.env.cells.lookup y=some a→x=y:= λh1 h2=>by obtain⟨o,q⟩:=Ez F₀ h2;exact no ((h.p.fresh a (.inr (.inr (.inr ⟨_,h1⟩)))).1.symm.trans q)
  rcases h.src hx with h1|⟨_,h1⟩<;>rcases h.src hy with h2|⟨_,h2⟩
  ·exact aps h.p.apart h1 h2
  ·exact fr h1 h2
  ·exact(fr h2 h1).symm
  ·exact F.u0 x y a h1 h2
end
end
section
theorem Cw{prog:Xk}{w:Tu}{A:S3}{R:U4→Sl→Prop}{s:Sl}{elt target iter:Su}{ifs:List Su}{scope:TY}{pos:SE}{it acc:Value}{env:SY}(I:Nat→Sl→Prop)
  (turn:∀n s,I n s→∀X,Sq (model prog w) A (Uk it) (λr s₁=>match r with
   |none=>R (.ok .next) s₁
   |some v=>Sq (model prog w) A (WQ target it v) (λ_ s₁=>Sq (model prog w) A (assign target env v) (λ_ s₂=>
     Sq (model prog w) A (forIn ifs true λc r=>if r=true then do let ok←isTrue c env (eval c env);pure (UT ok) else pure (UT r)) (λok s₃=>
      if ok=true then Sq (model prog w) A (eval elt env) (λx s₄=>
       Sq (model prog w) A (call (.builtin "list.append") [acc,x]) (λ_ s₅=> ∃m,m<n∧I m s₅) X s₄) X s₃
      else∃m,m<n∧I m s₃) X s₂) X s₁) X s₁) X s)
  (n:Nat) (h:I n s):UP (model prog w) A (.compLoop (.ListComp elt [⟨target,iter,ifs,0⟩] scope pos) 0 it acc env) R s:=by
 refine codeAny_loop rfl I (λn s hI=> ?_) n h;show Sq _ A ((compTurn (.ListComp elt [⟨target,iter,ifs,0⟩] scope pos) 0 it acc env).onRaise (λx=>do W3 x env;apt x)) _ _ s
 refine wpAny_noted ?_;rw[compTurn_list];refine Sm (Uo (Sm (Tq (turn n s hI _) (λr s₁ h₁=> ?_) λ_ _ h'=>h')));cases r with
 |none=>exact Sx h₁
 |some v=>
  refine Sm (Tq h₁ (λ_ s₁ h₁=> ?_) λ_ _ h'=>h');refine Sm (Tq h₁ (λ_ s₂ h₂=>Sm (Tq h₂ (λok s₃ h₃=> ?_) λ_ _ h'=>h')) λ_ _ h'=>h');cases ok with
  |false=>exact Sx ⟨rfl,h₃⟩
  |true=>
   exact Sm (Sm (Tq h₃ (λx s₄ h₄=>Sm (Tq h₄ (λ_ s₅ h₅=>Sx (Sx ⟨rfl,h₅⟩)) λ_ _ h'=>h')) λ_ _ h'=>h'))
def Fi(c:Cx)(aa:List V)(ifs:List Su)(p:Sc→ai→K Bool):Prop:= ∀sc ω,c.St aa ω→Bo c.b W0 ω (λ_ (v:Bool) pv=>pv=v) (forIn ifs true λq r=>if r=true then do let ok←isTrue q c.env (eval q c.env);pure (UT ok) else pure (UT r)) (p sc ω.m)
theorem K0{c:Cx}{aa:List V}:Fi c aa [] (λsc m k _=>k true sc m):= λsc ω st Q X w=>wpAny_tests_nil (w.here st.bH rfl)
theorem JB{c:Cx}{aa:List V}{p:Su}{x:Sc→ai→K V}(h:Tr c aa p (dS x)):Fi c aa [p] (dS x):= λsc ω st Q X w=>wpAny_tests_one (h sc ω st Q X w)
structure Lp where
 f:iT
 test:List V→Sc→ai→K Bool
 elt:List V→Sc→ai→K V
 aa:List V
 J:List V→List V→Sc→ai→Prop
noncomputable abbrev Lp.p(r:Lp):Cp:=r.f.p
def G5(v:V)(bD:List V)(J:List V→List V→Sc→ai→Prop)(l ys:List V)(sc:Sc)(m:ai):Prop:=guard (aO v m=some bD) sc λsc=>J l ys sc m
def uz(t:nO)(aa:List V)(test:List V→Sc→ai→K Bool)(elt:List V→Sc→ai→K V)(v:V)(bD:List V)(J:List V→List V→Sc→ai→Prop)(x:V)(l ys:List V)(m:ai)(sc:Sc):Prop:=gp (nA t x aa m) (λenv sc=>test env sc m (λb sc m₁=>two b
 (elt env sc m₁ (λx sc m₂=>G5 v bD J l (ys++[x]) sc m₂) λ_=>False) (G5 v bD J l ys sc m₁)) λ_=>False) sc
abbrev Lp.step(r:Lp):List V→List V→Sc→ai→Prop:=G5 r.p.v r.p.bD r.J
abbrev Lp.turn(r:Lp):V→List V→List V→ai→Sc→Prop:=uz r.f.t r.aa r.test r.elt r.p.v r.p.bD r.J
structure Lp.Ok(r:Lp)(target elt:Su)(ifs:List Su):Prop where
 f:r.f.Ok
 H:zH r.p.b.A r.p.b.B
 env:r.f.env.scope.kind=.function
 tgt:zZ (wz r.f.scope.names r.p.c.env.scope.names) (r.f.tn++r.p.c.nm) (r.f.tn.map (·.1)) r.f.t target=true
 IE:∀aa,Fi r.f.c aa ifs (r.test aa)
 elts:∀aa,Ev r.f.c aa elt (r.elt aa)
 st:r.p.c.St r.aa r.p.ω₀
 len:r.p.bD.length<ay
 J:∀x l ys sc m,r.J (x::l) ys sc m→∃sc,r.turn x l ys m sc
structure Cp.End(p:Cp)(ys:List V)(ω:Wd):Prop where
 bH:p.b.bY ω
 ext:fZ W0 p.ω₀ ω
 ns:∃mm,ω.h.Ns p.C mm
 acc:∃ps,ω.h.PlainList p.D ps∧eF ω ys ps.toList
 nf:∀a,p.own a→¬ez ω a
 len:ys.length≤p.bD.length
section
variable{r:Lp}{target elt:Su}{ifs:List Su}{i:Nat}{x:V}{l ys:List V}{ω:Wd}{s:Sl}{sc:Sc}{X:Value→Sl→Prop}
def Lp.cV(r:Lp)(n:Nat)(s:Sl):Prop:= ∃i ys ω sc,s=ω.s∧r.p.St i ys ω∧r.J (r.p.bD.drop i) ys sc ω.m∧n=r.p.bD.length+1-i∧i≤r.p.bD.length
theorem Lp.inv(hi:i<r.p.bD.length)(S:r.p.St (i+1) ys ω)(h:r.J (r.p.bD.drop (i+1)) ys sc ω.m):∃m,m<r.p.bD.length+1-i∧r.cV m ω.s:=
 ⟨_,XR (Wf hi) (T3 i),i+1,ys,ω,sc,rfl,S,h,rfl,hi⟩
theorem Lp.Ok.mE(o:r.Ok target elt ifs)(S:r.p.St i ys ω){aa:List V}{s':Sl}(kp:nJ (WN r.f.c (r.f.tn.map (·.1))) ω.s s')(F':aX r.f.c aa (ω.at s')):r.p.St i ys (ω.at s'):=by
 refine S.mE o.f.p (λb ob e hC hnc=>kp.keep b ob e λw=> ?_) kp.rest ?_ (λx a ha=> ?_)
 ·rcases w with w|⟨x,hx,_,hc⟩
  ·exact hC (w.trans o.f.loc)
  ·obtain⟨q,hq,rfl⟩:=SW.mp hx
   obtain⟨k,hk⟩:=jI hq;rcases o.f.src hc with h1|⟨h1,_⟩
   ·exact hnc _ h1
   ·exact no ((o.f.sf.free _ h1).1.symm.trans hk)
 ·obtain⟨mm,q,_⟩:=F'.ns
  exact⟨mm,o.f.loc▸q⟩
 ·obtain⟨n,hn⟩:=o.f.nc
  refine(F'.dP x a ?_).2.2.2;show r.f.env.cells.lookup x=some a;rw[o.f.look,kW (hn▸wD _ _ o.f.sf.nd) ha];rfl
theorem Lp.Ok.aj9(o:r.Ok target elt ifs)(hi:i<r.p.bD.length)(hl:ys.length≤i){aa:List V}(S:r.p.St (i+1) ys ω){ω₁:Wd}(E₁:fZ W0 ω ω₁)(st:r.f.c.St aa ω₁)(w:r.elt aa sc ω₁.m (λx sc m₂=>r.step (r.p.bD.drop (i+1)) (ys++[x]) sc m₂) λ_=>False):
  Sq r.p.b.P.M r.p.b.A (eval elt r.f.env) (λx s₄=>Sq r.p.b.P.M r.p.b.A (call (.builtin "list.append") [.ref r.p.D,x]) (λ_ s₅=> ∃m,m<r.p.bD.length+1-i∧r.cV m s₅) X s₄) X ω₁.s:=
 o.elts aa sc ω₁ st _ X ⟨_,_,w,λv fz m' h ω' e R E pv rv=>by
  subst e;obtain⟨hc,aeq,hJ⟩:=lP h;have S':=S.step (E₁.trans st.bH .none E) R hc;obtain⟨ps,a1,a2⟩:=S'.acc;refine aoU (hsz:= ?_) a1 λh₅ a3 hs₅=> ?_
  rotate_left
  ·rw[←UY,←a2.length]
   exact SG hl (SG (Tv (SM hi o.len)) gM)
  ·exact Lp.inv (ω:=ω'.at {ω'.s with heap:=h₅}) hi (S'.add o.f.p hl a2 rv a3 hs₅.extBut rfl) hJ,λ_ h=>h.elim⟩
theorem Lp.Ok.turn(o:r.Ok target elt ifs)(hi:i<r.p.bD.length)(hx:r.p.bD[i]? =some x)(S:r.p.St i ys ω)(h:r.turn x (r.p.bD.drop (i+1)) ys ω.m sc):
  Sq r.p.b.P.M r.p.b.A (Uk (.ref r.p.I)) (λq s₁=>match q with
   |none=>False
   |some v=>Sq r.p.b.P.M r.p.b.A (WQ (zX r.f.t target) (.ref r.p.I) v) (λ_ s₁=>Sq r.p.b.P.M r.p.b.A (assign (zX r.f.t target) r.f.env v) (λ_ s₂=>
     Sq r.p.b.P.M r.p.b.A (forIn ifs true λc q=>if q=true then do let ok←isTrue c r.f.env (eval c r.f.env);pure (UT ok) else pure (UT q)) (λok s₃=>
      if ok=true then Sq r.p.b.P.M r.p.b.A (eval elt r.f.env) (λx s₄=>Sq r.p.b.P.M r.p.b.A (call (.builtin "list.append") [.ref r.p.D,x]) (λ_ s₅=> ∃m,m<r.p.bD.length+1-i∧r.cV m s₅) X s₄) X s₃
      else∃m,m<r.p.bD.length+1-i∧r.cV m s₃) X s₂) X s₁) X s₁) X ω.s:=
 Cn S.bH S.it hx λh₁ tk₁ px EM it₁ r₁=>by
  obtain⟨cF,gU,hb,h⟩:=eK h;have S₁:=S.next o.f.p (s':={ω.s with heap:=h₁,toks:=tk₁}) EM rfl it₁.it
  refine DH (b:=r.p.b) it₁.it ?_;have cj:=o.st.ext S₁.ext S₁.bH;have lX:=o.f.frame o.st.lX cj.lX S₁;refine rL (c:=r.f.c) o.H o.env (by rw[o.f.names];exact o.tgt) o.f.sf.inj S₁.bH lX r₁ ((HC ..).trans hb) λs₂ kp F₂=> ?_;have S₂:=o.mE S₁ kp F₂;have qO:r.f.c.St cF _:=⟨S₂.bH,F₂,o.st.zD.ext S₂.ext⟩;refine o.IE cF gU _ qO _ X ⟨_,_,h,λv fz m' h ω' e R E pv rv=> ?_,λ_ h=>h.elim⟩;subst e;subst rv;cases pv with
  |false=>
   have h:r.step (r.p.bD.drop (i+1)) ys fz ω'.m:=h;obtain⟨hc,aeq,hJ⟩:=lP h;exact Lp.inv hi (S₂.step E R hc) hJ
  |true=>exact o.aj9 hi S.len S₂ E (qO.ext E R) h
theorem Lp.Ok.c9(o:r.Ok target elt ifs)(hx:r.p.bD[i]? =none)(S:r.p.St i ys ω){Q:Option Value→Sl→Prop}(hi:i≤r.p.bD.length)(hQ:∀ω',ω'.m=ω.m→r.p.End ys ω'→Q none ω'.s):Sq r.p.b.P.M r.p.b.A (Uk (.ref r.p.I)) Q X ω.s:=
 GR o.H (o.f.p.fresh _ (.inl rfl)).2 S.bH S.it hx λh₁ EM=>by have O:r.p.P4 ω.s {ω.s with heap:=h₁}:= .aA EM (.inl rfl) rfl;obtain⟨ps,⟨q,e1⟩,e2⟩:=S.acc;exact hQ (ω.at {ω.s with heap:=h₁}) rfl ⟨S.ahw o.f.p O,S.afU o.f.p O,S.acF λob e=>EM _ ob (Tf o.f.p.IC) e,⟨ps,⟨q,EM _ _ (Tf o.f.p.ID) e1⟩,e2.bg (S.le O)⟩,S.nf,SG S.len hi⟩
theorem Lp.Ok.adX(o:r.Ok target elt ifs){iter:Su}{scope:TY}{pos:SE}{R:U4→Sl→Prop}(S:r.p.St 0 [] ω)(h:r.J r.p.bD [] sc ω.m)(hR:∀ys ω' sc,r.J [] ys sc ω'.m→r.p.End ys ω'→R (.ok .next) ω'.s):
  UP r.p.b.P.M r.p.b.A (.compLoop (.ListComp elt [⟨zX r.f.t target,iter,ifs,0⟩] scope pos) 0 (.ref r.p.I) (.ref r.p.D) r.f.env) R ω.s:=by
 refine Cw r.cV (λn s hI X=> ?_) (r.p.bD.length+1) ⟨0,[],ω,sc,rfl,S,h,rfl,Um _⟩;obtain⟨i,ys,ω,sc,rfl,S,h,rfl,hi⟩:=hI;by_cases k9:i<r.p.bD.length
 ·rw[XO k9] at h
  obtain⟨fz,ht⟩:=o.J _ _ _ _ _ h;refine Tq (o.turn (X:=X) k9 (S6 k9) S ht) (λq s₁ hq=> ?_) λ_ _ x=>x;cases q with
  |none=>exact hq.elim
  |some v=>exact hq
 ·rw[Y8 (SS k9)] at h
  exact o.c9 (Vc (SS k9)) S hi λω' e E=>hR ys ω' sc (e▸h) E
theorem fZ.abT{W:So→Prop}{ω₀:Wd}{C:So}{s':Sl}(E:fZ W ω₀ ω)(k:Tn C ω.h s'.heap)(h0:ω₀.h.get? C=none)(hr:lR ω.s s')(S:WS W ω₀.h):fZ W ω₀ (ω.at s') where
 len:=E.len
 live:=E.live
 loc:=E.loc
 keep b o e f w:=by obtain⟨o',e',s⟩:=E.keep b o e f w;exact⟨o',k b o' (λz=>no (h0.symm.trans (z▸e))) e',s⟩
 soft _ b w:=by obtain⟨o,e,q⟩:=E.soft S b w;obtain⟨o₀,e₀,_⟩:=S b w;exact⟨o,k b o (λz=>no (h0.symm.trans (z▸e₀))) e,q⟩
 new:=E.new
 cls b o w e d:=by obtain⟨o',e',r⟩:=E.cls b o w e d;exact⟨o',k b o' (λz=>no (h0.symm.trans (z▸e))) e',r⟩
 rest:=E.rest.trans hr
theorem Cp.End.DG{p:Cp}(F:p.Ok)(e:p.End ys ω)(k9:ys.length<ay):p.b.bY (ω.add (.list ys) p.D p.D ω.s)∧fZ W0 p.ω₀ (ω.add (.list ys) p.D p.D ω.s)∧VR (ω.add (.list ys) p.D p.D ω.s) (.ref ω.m.next) (.ref p.D)∧¬ez (ω.add (.list ys) p.D p.D ω.s) p.C:=by
 have oD:p.own p.D:= .inr (.inl rfl);have oC:p.own p.C:= .inr (.inr (.inl rfl));obtain⟨ps,a1,a2⟩:=e.acc;refine⟨bY.add (s':=ω.s) e.bH (e.nf _ oD) (e.nf _ oD) (F.fresh _ oD).2 (F.fresh _ oD).2 (ko.list a1 a2 (Tv k9) ⟨λ_ _ e=>e,rfl⟩),fZ.add (s':=ω.s) e.ext (F.fresh _ oD).1 (F.fresh _ oD).1,⟨SX (T3 _) (Te Wd.tW.symm),bk T7 (Loc.add_r ω.σ ω.n p.D p.D).symm⟩,λf=> ?_⟩;obtain⟨a,ha,hb⟩:=f;rcases Wd.qC ha with⟨la,ha⟩|rfl
 ·rw[show(ω.add _ _ _ ω.s).σ.r a=_ from(Loc.dQ la).1,show(ω.add _ _ _ ω.s).σ.d a=_ from(Loc.dQ la).2] at hb
  exact e.nf _ oC ⟨a,ha,hb⟩
 ·rw[show(ω.add _ _ _ ω.s).σ.r ω.n=_ from Loc.add_r ..,show(ω.add _ _ _ ω.s).σ.d ω.n=_ from Loc.tM ..,or_self] at hb
  exact F.DC hb.symm
end
end
section
theorem Le.at{ω:Wd}{s':Sl}(h:∀b o,ω.h.get? b=some o→jR o→s'.heap.get? b=some o):Le ω (ω.at s'):=⟨SQ _,λ_ _=>rfl,h⟩
noncomputable def um:Su→Bool
 |.Set _ _ _=>false
 |_=>true
theorem oG{e:Su}(h:um e=true)(env:SY)(x:Value):foldedSetIterable e env x=pure x:=by cases e<;>first|rfl|exact gg h
section
variable{c:Cx}{aa:List V}{scope:TY}{tn:List (Sv×Nat)}{t:nO}{elt target iter:Su}{ifs:List Su}{pos:SE}{test:List V→Sc→ai→K Bool}{Ai:List V→Sc→ai→K V}{RL:Sc→ai→K V}{ω:Wd}{v:V}{pv:Value}{bD:List V}
theorem xZ(F:aX c aa ω)(sf:sr c.env.scope.names c.nm scope tn):∀p∈scope.names,p.2=.free→∃a,c.env.cells.lookup p.1=some a:= λp hp he=>by obtain⟨a,ov,h1,_⟩:=F.cell p.1 (sf.free p.1 (he▸hp)).2;exact⟨a,h1⟩
structure PI(c:Cx)(scope:TY)(tn:List (Sv×Nat))(t:nO)(target elt:Su)(ifs:List Su)(test:List V→Sc→ai→K Bool)(Ai:List V→Sc→ai→K V):Prop where
 ok:c.Ok
 sf:sr c.env.scope.names c.nm scope tn
 ht:tn.map (·.2)=t.slots
 tgt:zZ (wz scope.names c.env.scope.names) (tn++c.nm) (tn.map (·.1)) t target=true
 zd:∀lO:SY,lO.scope.names=wz scope.names c.env.scope.names→lO.scope.kind=.function→lO.globals=c.env.globals→lO.builtins=c.env.builtins→∀cF,
  Fi {c with env:=lO,nm:=tn++c.nm} cF ifs (test cF)∧Ev {c with env:=lO,nm:=tn++c.nm} cF elt (Ai cF)
noncomputable def lF(c:Cx)(ω:Wd)(scope:TY)(v:V)(pv:Value)(bD:List V):Cp:=⟨c,ω,ω.h.objs.size+1+1,Td (ω.h.objs.size+1+1+1) scope.names [],ω.h.objs.size,ω.h.objs.size+1,v,pv,bD⟩
theorem Mz{h':S2}(R:c.b.bY ω)(cell:∀x a,(x,a)∈Td (ω.h.objs.size+1+1+1) scope.names []→(∃ov,h'.IsCell a ov)∧ω.h.objs.size+1+1+1≤a)(apart:(Td (ω.h.objs.size+1+1+1) scope.names []).Pairwise λx y=>x.2≠y.2):(lF c ω scope v pv bD).Ok:=by
 have up:∀{x a},(x,a)∈Td (ω.h.objs.size+1+1+1) scope.names []→ω.h.objs.size+1+1<a:= λha=>(cell _ _ ha).2;refine⟨λa ha=> ?_,T9 (T3 _),T9 (Wf (T3 _)),T9 (T3 _),λx a ha=>⟨Vt (SM (Wf (T3 _)) (up ha)),Vt (SM (T3 _) (up ha)),Vt (up ha)⟩,apart⟩;have h0:ω.h.objs.size≤a:=by
  rcases ha with rfl|rfl|rfl|⟨x,ha⟩
  ·exact SQ _
  ·exact TM _
  ·exact Th (TM _)
  ·exact Tv (SM (Wf (T3 _)) (up ha))
 have e:=Vs h0;exact⟨e,fQ R.base e⟩
theorem Mw{h':S2}{o:SK}(st:c.St aa ω)(F:(lF c ω scope v pv bD).Ok)(it:lH (ω.at {ω.s with heap:=ω.h.push o}) v pv bD ω.h.objs.size 0)(k:∀b ob,((ω.h.push o).push {cls:= .type "list",data:= .seq #[]}).get? b=some ob→h'.get? b=some ob)
  (ns:∃mm,h'.Ns (ω.h.objs.size+1+1) mm) (cell:∀x a,(x,a)∈Td (ω.h.objs.size+1+1+1) scope.names []→∃ov,h'.IsCell a ov):(lF c ω scope v pv bD).St 0 [] (ω.at {ω.s with heap:=h'}):=by
 have kp:∀b ob,(ω.h.push o).get? b=some ob→h'.get? b=some ob:= λb ob e=>k b ob (S7 _ e);have G:cZ ω.s {ω.s with heap:=h'}:= .of λb ob e=>kp b ob (S7 _ e);refine⟨G.bH st.bH,G.ext,it.keep ⟨SQ _,λ_ _=>rfl,λb ob e _=>kp b ob e⟩ it.items λob e=>kp _ ob e,ns,cell,⟨#[],⟨0,k _ _ ?_⟩,rfl⟩,λa ha=>st.bH.j6 (F.fresh a ha).1,Um _⟩;have:=Tt (ω.h.push o) (o:={cls:= .type "list",data:= .seq #[]}) rfl
 rwa [Uj] at this
def mZ(c:Cx)(scope:TY)(t:nO)(target elt:Su)(ifs:List Su)(ω:Wd)(v:V)(pv:Value)(Q:List V→ai→Prop):Prop:= ∀(iter:Su) (pos:SE) (R:Value→So→U4→Sl→Prop) (X:Value→Sl→Prop) (cl:List (Sv×So)),
 (∀x a,(x,a)∈cl→(x,.free)∈scope.names∧c.env.cells.lookup x=some a)→(∀x,(x,.free)∈scope.names→∃a,(x,a)∈cl)→
 (∀bD,(lF c ω scope v pv bD).Ok→∀ys ω',ys.length<ay→Q ys ω'.m→(lF c ω scope v pv bD).End ys ω'→R (.ref (lF c ω scope v pv bD).D) (lF c ω scope v pv bD).C (.ok .next) ω'.s)→
  Sq c.b.P.M c.b.A (XN pv) (λit s₂=>Sq c.b.P.M c.b.A (Xw []) (λacc s₃=>Sq c.b.P.M c.b.A (WY scope c.env.globals cl [] c.env.qual none .none (some c.env)) (λlO s₄=>
   UP c.b.P.M c.b.A (.compStart (.ListComp elt [⟨zX t target,iter,ifs,0⟩] scope pos) 0 it acc {lO with scope:=WW scope c.env}) (R acc lO.locals) s₄) X s₃) X s₂) X ω.s
theorem mZ.bg{Q Q':List V→ai→Prop}(h:mZ c scope t target elt ifs ω v pv Q)(k:∀ys m,Q ys m→Q' ys m):mZ c scope t target elt ifs ω v pv Q':= λiter pos R X cl h1 h2 hR=>h iter pos R X cl h1 h2 λbD P ys ω' hl q=>hR bD P ys ω' hl (k _ _ q)
theorem A7(F:PI c scope tn t target elt ifs test Ai)(st:c.St aa ω)(hv:VR ω v pv)(hi:aO v ω.m=some bD)(hlen:bD.length<ay){J:List V→List V→Sc→ai→Prop}{Q:List V→ai→Prop}{sc:Sc}(hJ:J bD [] sc ω.m)(turn:∀x l ys sc m,J (x::l) ys sc m→∃sc,uz t aa test Ai v bD J x l ys m sc)
  (fin:∀ys sc m,J [] ys sc m→ys.length<ay∧Q ys m):mZ c scope t target elt ifs ω v pv Q:= λiter pos R X cl h1 h2 hR=>by
 refine yp st.bH hv hi λo it=>Vh (GB λh' k₀ ns₀ H8 Hw=> ?_) (Um _);dsimp only at k₀ ns₀ H8 Hw⊢;rw[Uj,Uj] at ns₀ H8 Hw;rw[Uj,Uj,Uj];have P:=Mz (v:=v) (pv:=pv) (bD:=bD) st.bH H8 Hw;have S:=Mw st P it k₀ ns₀ λx a ha=>(H8 x a ha).1;let lO:SY:={scope:=WW scope c.env,locals:=ω.h.objs.size+1+1,globals:=c.env.globals,cells:=Td (ω.h.objs.size+1+1+1) scope.names []++cl,qual:=c.env.qual,func:=none,code:=c.env.code,frame:=c.env.frame,builtins:=c.env.builtins};let f:iT:=⟨lF c ω scope v pv bD,scope,tn,t,cl,lO⟩;have Fk:f.Ok:=⟨P,F.ok.kind,F.sf,F.ht,h1,h2,⟨_,rfl⟩,rfl,rfl,rfl⟩;have inn:=F.zd lO Fk.names F.sf.kind rfl rfl;have O:Lp.Ok ⟨f,test,Ai,aa,J⟩ target elt ifs:=⟨Fk,F.ok.b.hd,F.sf.kind,F.tgt,λvs=>(inn vs).1,λvs=>(inn vs).2,st,hlen,turn⟩;have go:=O.adX (iter:=iter) (scope:=scope) (pos:=pos) S hJ λys ω' sc hj e=>hR bD P ys ω' (fin _ _ _ hj).1 (fin _ _ _ hj).2 e;exact codeAny_compStart_list go (R8 S.it go)
def Pf(t:nO)(aa:List V)(test:List V→Sc→ai→K Bool)(Ai:List V→Sc→ai→K V)(v:V)(m:ai)(k:KV)(sc:Sc):Prop:=ask An.toL (aO v m) sc λl sc=>guard (l.length<ay) sc λsc=>
 DZ (λx m=>nA t x aa m) (λm'=>aO v m'=some l) (λ_=>inferInstance) (λenv sc m k=>test env sc m k λ_=>False) (λenv sc m k=>Ai env sc m k λ_=>False) (λxs sc m=>nQ xs m sc k) l [] sc m
abbrev HR(k:KV)(ys:List V)(m:ai):Prop:= ∃sc,k (.ref m.next) sc (m.push (.list ys))
theorem N9(F:PI c scope tn t target elt ifs test Ai)(st:c.St aa ω)(hv:VR ω v pv){k:KV}{sc:Sc}(h:Pf t aa test Ai v ω.m k sc):mZ c scope t target elt ifs ω v pv (HR k):=by
 obtain⟨bD,wH,hi,h⟩:=uL h;obtain⟨hlen,sc₃,h⟩:=lP h;refine A7 (J:=DZ (λx m=>nA t x aa m) (λm'=>aO v m'=some bD) (λ_=>inferInstance) (λenv sc m k=>test env sc m k λ_=>False) (λenv sc m k=>Ai env sc m k λ_=>False) (λxs sc m=>nQ xs m sc k))
  F st hv hi hlen h (λx l ys sc m h=>⟨sc,h⟩) λys sc m h=> ?_
 obtain⟨y,m',fz,e1,h⟩:=vA h;obtain⟨k9,e1⟩:=jF e1;cases e1;exact⟨k9,fz,h⟩
theorem HZ(ok:c.Ok)(sf:sr c.env.scope.names c.nm scope tn)(K8:um iter=true)(hit:Ev c aa iter RL){L:V→Sc→ai→KV→Prop}
  (hl:∀ω v pv sc k,c.St aa ω→VR ω v pv→L v sc ω.m k→mZ c scope t target elt ifs ω v pv (HR k)):
  Ev c aa (.ListComp elt [⟨zX t target,iter,ifs,0⟩] scope pos) (λsc m k kx=>RL sc m (λv sc m=>L v sc m k) kx):= λsc ω st Q X w=>by
 obtain⟨cl,hcl,h1,h2⟩:=qc (xZ st.lX sf);rw[eval_ListComp];refine apu (use:=none) (g:=⟨zX t target,iter,ifs,0⟩) (gs:=[]) rfl (λx=>oG K8 _ x) hcl sf.kind (λx hx he=>kW sf.nd (he▸hx)) ?_;refine(hit sc ω st).step (f:= λv sc m k _=>L v sc m k) st w λω₁ v gU pv cj L₁ r₁ w₁=>w₁.elim λk kx h hk hx=> ?_;refine hl ω₁ v pv gU k cj r₁ h iter pos _ X cl h1 h2 λbD P ys ω' k9 hq e=> ?_;obtain⟨fz,hq⟩:=hq;obtain⟨R,E,r,nf⟩:=e.DG P k9;have oC:=P.fresh _ (.inr (.inr (.inl rfl)));obtain⟨mm,q⟩:=e.ns;refine⟨mm,q,λh' sb=> ?_⟩;obtain⟨o,ho,sf⟩:=Gu q;have R':=R.but (s':={ω'.s with heap:=h'}) sb.extBut nf oC.2 λo' e'=>by cases ho.symm.trans e';exact sf.2
 exact hk _ _ _ hq ((ω'.add (.list ys) (lF c ω₁ scope v pv bD).D (lF c ω₁ scope v pv bD).D ω'.s).at {ω'.s with heap:=h'}) rfl R' (E.abT sb.extBut oC.1 rfl .none) _
  (r.bg (Le.at (ω:=ω'.add (.list ys) (lF c ω₁ scope v pv bD).D (lF c ω₁ scope v pv bD).D ω'.s) (s':={ω'.s with heap:=h'}) λb o' e' f=>sb.extBut b o' (λz=>by subst z;cases ho.symm.trans e';exact sf.2 f) e'))
end
end
section
theorem JD:YE (.type "dict") "__iter__"=pure (some (.builtin "dict.__iter__")):=by rw[typeLookup_type,builtinLookup_eq_fast];kernel_rfl
structure Row where
 n:Nat
 t:Nat
 p:SE
 e:Su
 x:Sc→ai→K V
noncomputable def vW:List Row→Sc→ai→K (List V)
 |[],sc,m=> λk _=>k [] sc m
 |r::l,sc,m=> λk kx=>r.x sc m (λv sc m=>vW l sc m (λvs sc m=>k (v::vs) sc m) kx) kx
noncomputable def Jx(c:Cx)(pos:SE)(r:Row):SJ Value×SJ Value:=(eval (.Constant (.str (SH (gE r.n))) r.t r.p) c.env,do let x←eval r.e c.env;WM pos;pure x)
def oU(c:Cx)(aa:List V)(l:List Row):Prop:= ∀r∈l,r.n<yY∧Ev c aa r.e r.x
noncomputable def nL(l:List Row)(vs:List V)(es:List (V×V)):List (V×V):=((l.map Row.n).zip vs).foldl (λes p=>bR (.str p.1) p.2 es) es
theorem MZ{kx:KX}(l₂:List Row)(l:List Row):∀{sc:Sc} {m:ai} {k:List V→Sc→ai→Prop},vW (l++l₂) sc m k kx=vW l sc m (λv₁ sc m=>vW l₂ sc m (λv₂ sc m=>k (v₁++v₂) sc m) kx) kx:=by
 induction l with
 |nil=>exact rfl
 |cons r l ih=>exact bk (λz=>r.x _ _ z kx) (funext λv=>funext λsc=>funext λm=>ih)
def vc(c:Cx)(ω:Wd)(D:So)(es:List (V×V)):Prop:=abd c.b.P ω D .str es∧¬ez ω D∧c.b.B D=none
section
variable{c:Cx}{aa:List V}{ω₀ ω ω':Wd}{D:So}{es:List (V×V)}{X:Value→Sl→Prop}{kx:KX}{pos:SE}{s':Sl}
theorem fJ{P:PF}{h:S2}{D:So}{k:KK}{kvs:List (k.T×Value)}(d:h.DictOf (k.knd P) D kvs):∀o,h.get? D=some o→¬jR o:= λo e=>by obtain⟨o',es,ep,e',hc,_⟩:=d;cases e.symm.trans e';exact gI (.inr (.inl hc.1))
theorem vc.ext(S:vc c ω D es)(R:c.b.bY ω)(E:fZ W0 ω ω'):vc c ω' D es:=by obtain⟨⟨kvs,⟨o,iL,ep,ho,hc,r⟩,kv⟩,f,b⟩:=S;obtain⟨o',Ea,s⟩:=E.keep D o ho f id;cases s.exact (hc.1▸iZ (by decide));exact⟨⟨kvs,⟨_,iL,ep,Ea,hc,r⟩,kv.bg (E.PB R)⟩,λz=>f (E.JU ho z),b⟩
structure jz(c:Cx)(aa:List V)(ω₀ ω:Wd):Prop where
 st:c.St aa ω
 ext:fZ W0 ω₀ ω
theorem jz.pD(Lx:c.St aa ω₀)(S:jz c aa ω₀ ω)(hD:ω₀.h.get? D=none)(f:¬ez ω D)(b:c.b.B D=none)(hs:Tn D ω.h s'.heap)(hr:lR ω.s s')(hd:∀o,ω.h.get? D=some o→¬jR o):jz c aa ω₀ (ω.at s'):=by
 have R':=S.st.bH.but hs f b hd;have E':fZ W0 ω₀ (ω.at s'):=⟨S.ext.len,S.ext.live,S.ext.loc,λb o e f w=>by obtain⟨o',e',q⟩:=S.ext.keep b o e f w;exact⟨o',hs b o' (λz=>no (hD.symm.trans (z▸e))) e',q⟩,λ_=> .none,S.ext.new,λ_ _ z=>z.elim,S.ext.rest.trans hr⟩
 exact⟨Lx.ext E' R',E'⟩
theorem Br(hs:Tn D ω.h s'.heap)(hd:∀o,ω.h.get? D=some o→¬jR o):Le ω (ω.at s'):=⟨SQ _,λ_ _=>rfl,λb o e q=>hs b o (λz=>hd o (z▸e) q) e⟩
theorem Kv(f:(SJ Value×SJ Value)→PUnit→SJ (ForInStep PUnit))(hf:∀p u,f p u=(do let kv←p.1;let vv←US [kv] p.2;US [kv,vv] (dictSet D kv vv);pure (.yield ⟨⟩)))(Lx:c.St aa ω₀)(hD:ω₀.h.get? D=none)(hx:∀m',kx m'→IJ c.b W0 ω₀ X m'):
  ∀(l:List Row) (es:List (V×V)) (ω:Wd) (sc:Sc) (k:List V→Sc→ai→Prop) (Q:PUnit→Sl→Prop),oU c aa l→jz c aa ω₀ ω→vc c ω D es→es.length+l.length≤ay→vW l sc ω.m k kx→
   (∀vs sc ω₁,vs.length=l.length→k vs sc ω₁.m→jz c aa ω₀ ω₁→vc c ω₁ D (nL l vs es)→Q ⟨⟩ ω₁.s)→Sq c.b.P.M c.b.A (forIn (l.map (Jx c pos)) WR f) Q X ω.s:= λl=>by
 induction l with
 |nil=>
  intro es ω sc k Q ok B S hsz h hQ;exact Sx (hQ [] sc ω rfl h B S)
 |cons r l ih=>
  intro es ω sc k Q ok B S hsz h hQ;rw[TV,VL,hf];refine Sm (Sm (XK (env:=c.env) (k:=r.t) (pos:=r.p) ?_));refine Sm (To (Sm ?_));have G:cZ ω.s {ω.s with toks:=ω.s.toks+1}:=⟨λ_ _ e=>e,rfl⟩;have cj:=B.st.ext G.ext (G.bH B.st.bH);have E₁:=B.ext.trans B.st.bH .none G.ext;refine(ok r SI).2 sc (ω.at {ω.s with toks:=ω.s.toks+1}) cj _ X ⟨_,kx,h,λv fz m' hv ω₂ e R₂ E₂ pv rv=> ?_,λm' h=>(hx m' h).at E₁ cj.bH .none⟩;subst e;refine Sm (Uo (Sx ?_));refine Sm (To ?_);have B₂:jz c aa ω₀ ω₂:=⟨cj.ext E₂ R₂,E₁.trans cj.bH .none E₂⟩;obtain⟨⟨kvs,dk,kv⟩,nf,nb⟩:=(S.ext B.st.bH G.ext).ext cj.bH E₂;have hlen:=kv.length;have hnd:(kvs.map (·.1)).Nodup:=by obtain⟨_,_,_,_,_,_,_,_,q⟩:=dk;exact q
  have ahz:es.length+1+l.length≤ay:=by rw[UN,Vv 1];exact hsz
  refine wpAny_dictSet_pairs (knd:=KK.str.knd c.b.P) (k:=SH (gE r.n)) (hsz:= ?_) (beq_self_eq_true _) dk λh₂ dk₂ hs=>Sx ?_
  rotate_left
  ·rw[←hlen]
   exact SG (SG (SV _ _) (SG (SV _ _) ahz)) gM
  have L:=Br (ω:=ω₂) (s':={ω₂.s with heap:=h₂,toks:=ω₂.s.toks+1}) hs.extBut (fJ dk);have B₃:jz c aa ω₀ (ω₂.at {ω₂.s with heap:=h₂,toks:=ω₂.s.toks+1}):=B₂.pD Lx hD nf nb hs.extBut rfl (fJ dk);refine ih (bR (.str r.n) v es) (ω₂.at {ω₂.s with heap:=h₂,toks:=ω₂.s.toks+1}) fz _ Q (λr hr=>ok r (S0 _ hr)) B₃ ⟨⟨_,dk₂,m6.bR (k:= .str) (κ:=SH (gE r.n)) (v:= .str r.n) ⟨r.n,(ok r SI).1,rfl,rfl⟩ (rv.bg L) (kv.bg L) hnd⟩,nf,nb⟩ ?_ hv λvs wH ω₄ hl hk B₄ S₄=> ?_
  ·exact SG (W4 (oO _ _ _) _) ahz
  ·exact hQ (v::vs) wH ω₄ (bk UE hl) hk B₄ S₄
end
end
section
section
variable{P:PF}{A:S3}{s:Sl}{X:Value→Sl→Prop}{K:Type}[DecidableEq K]{knd:KeyKind P.prog P.w K}
theorem Gm(kvs:List (K×Value))(k:K)(v:Value):(stored kvs k v).length≤kvs.length+1:=by
 unfold stored
 split
 ·rw[Sy];exact TM _
 ·rw[S4];exact SQ _
theorem zK{d:So}{kvs:List (K×Value)}{k:K}{key v:Value}{Q:Unit→Sl→Prop}(hkey:knd.is k key=true)(hm:s.heap.DictOf knd d kvs)(hsz:kvs.length≤Uc)
  (hQ:∀h',h'.DictOf knd d (stored kvs k v)→U5 d s.heap h'→Q () {s with heap:=h'}):Sq P.M A (W5 d (knd.hash k) key v) Q X s:=by
 obtain⟨o,es,ep,ho,hc,hd,hk,hp,hn⟩:=hm;have hes:es.size≤Uc:=by
  have e1:=hp.length;have e2:es.toList.length=es.size:=by simp
  omega
 unfold W5;refine Sm (wpAny_dictFind_of hkey ho hd hk ?_);have abV:(es.findIdx? λe=>knd.is k e.key)=kvs.findIdx? λkv=>decide (kv.1=k):=by rw[←hp.findIdx k];obtain⟨l⟩:=es;simp
 cases hi:es.findIdx? λe=>knd.is k e.key with
 |some i=>
  refine wpAny_updateDict ho hd (hQ _ ⟨_,_,ep,Ut _ ho (Y0 (apv hd _)),hc.mapDict _,apv hd _,hk.modify _ _,?_,?_⟩ (U1 ..))
  ·rw[stored,aG (apw (abV▸hi))]
   have hl:(es.toList.findIdx? λe=>knd.is k e.key)=some i:=by rw[←hi];obtain⟨l⟩:=es;simp
   have:=hp.modify hn hl v;obtain⟨l⟩:=es;simpa using this
  ·rw[stored,aG (apw (abV▸hi)),apx];exact hn
 |none=>
  have agB:k∉kvs.map (·.1):=not_mem_of_findIdx_none (abV▸hi);have K2:¬(kvs.any λkv=>decide (kv.1=k))=true:=by rw[Y9];rintro ⟨kv,hkv,he⟩;exact agB (SW.mpr ⟨kv,hkv,of_decide_eq_true he⟩)
  refine wpAny_updateDictKeys (hz:=hes) ho hd (hQ _ ⟨_,_,ep+1,Ut _ ho (Y0 (apy hd _)),hc.mapDictKeys _,apy hd _,hk.push hkey _,?_,?_⟩ (U1 ..))
  ·rw[stored,aJ K2]
   have:=hp.append hkey (knd.hash k) v;obtain⟨l⟩:=es;simpa using this
  ·rw[stored,aJ K2,TA,We]
   refine⟨hn,by simp,λa ha b hb=> ?_⟩;simp only[TV,List.map_nil,Tp] at hb;subst hb
   exactλe=>agB (e▸ha)
noncomputable def OJ(d o:So)(epoch:Nat)(i:Nat):SJ (ForInStep PUnit):=do
 let es←dictEntries o
 match es[i]?with
 |some e=>do
  US [e.key,e.val] (if false=true then do
    let r←dictFind d e.key e.hash
    if r.isSome=true then do
     rule "dict.merge.duplicate-key"
     let x←newExc (VT "KeyError") [e.key]
     Xp x
     W5 d e.hash e.key e.val
    else W5 d e.hash e.key e.val
   else W5 d e.hash e.key e.val)
  let ep←dictEpoch o
  if(ep !=epoch)=true then do
   unsupported "dict.changed-during-merge"
   pure (UT WR)
  else pure (UT WR)
 |_=>do
  unsupported "dict.changed-during-merge"
  pure (UT WR)
structure MR(knd:KeyKind P.prog P.w K)(oo:SK)(J3:Array Vd)(epo:Nat)(more:List (K×Value)):Prop where
 data:oo.data=.dict J3 epo
 keys:∀e∈J3,∃k,knd.is k e.key=true∧e.hash=knd.hash k
 pairs:Pairs knd J3.toList more
theorem Gw{d o:So}{oo:SK}{J3:Array Vd}{epo i:Nat}{more kvs:List (K×Value)}{k:K}{v:Value}{Q:ForInStep PUnit→Sl→Prop}(R:MR knd oo J3 epo more)(hdo:d≠o)(ho:s.heap.get? o=some oo)(hi:more[i]? =some (k,v))(hd:s.heap.DictOf knd d kvs)(hsz:kvs.length≤Uc)
  (hQ:∀h',h'.DictOf knd d (stored kvs k v)→h'.get? o=some oo→U5 d s.heap h'→Q (.yield ⟨⟩) {s with heap:=h'}):Sq P.M A (OJ d o epo i) Q X s:=by
 have k9:i<J3.size:=by have e:=R.pairs.length;rw[UY] at e;exact e▸(Vq.mp hi).1
 obtain⟨hkey,ae5⟩:=R.pairs.get? (e:=J3[i]) (by rw[U0,VY k9]) hi;obtain⟨k',agE,agc⟩:=R.keys J3[i] (Array.getElem_mem k9);cases knd.inj _ _ _ agE hkey;unfold OJ;refine Sm (Xu ho R.data ?_);rw[VY k9];dsimp only;rw[agc,ae5];refine Sm (To (zK hkey hd hsz λh' hd' ue=> ?_));have Ea:h'.get? o=some oo:=(ue.2 o (Tf hdo)).trans ho;refine Sm (Yz Ea R.data ?_);rw[aJ (λz=>absurd (bne_iff_ne.mp z) λz=>z rfl)];exact Sx (hQ h' hd' Ea ue)
theorem G7{d o:So}{oo:SK}{J3:Array Vd}{epo:Nat}{more:List (K×Value)}{f:Nat→PUnit→SJ (ForInStep PUnit)}{Q:PUnit→Sl→Prop}(hf:∀i u,f i u=OJ d o epo i)(R:MR knd oo J3 epo more)(hdo:d≠o):∀(n i:Nat) (kvs:List (K×Value)) (s:Sl),i+n=more.length→s.heap.get? o=some oo→s.heap.DictOf knd d kvs→kvs.length+n≤Uc→
  (∀h',h'.DictOf knd d (merged kvs (more.drop i))→U5 d s.heap h'→Q ⟨⟩ {s with heap:=h'})→Sq P.M A (forIn (Uv i n) ⟨⟩ f) Q X s:= λn=>by
 induction n with
 |zero=>
  intro i kvs s hi ho hd hsz hQ;rw[show more.drop i=[] from Y8 (Te hi.symm)] at hQ;exact Sx (hQ s.heap hd (aqZ _ _))
 |succ n ih=>
  intro i kvs s hi ho hd hsz hQ;have k9:i<more.length:=hi▸YY (WT n);rw[apz,VL,hf];refine Sm (Gw R hdo ho (S6 k9) hd (SG (SV _ _) hsz) λh' hd' Ea ue=> ?_);refine ih (i+1) (stored kvs more[i].1 more[i].2) {s with heap:=h'} ((Za i n).trans hi) Ea hd' (SG (W4 (Gm _ _ _) _) ((Za _ n)▸hsz)) λOF akk aj2=>hQ OF ?_ (ue.trans aj2);rw[XO k9];exact akk
theorem Lj{d o:So}{kvs more:List (K×Value)}{Q:Unit→Sl→Prop}(hdo:d≠o)(hoS:(o==UX)=false)(hne:kvs≠[])
  (hd:s.heap.DictOf knd d kvs) (ho:s.heap.DictOf knd o more) (hsz:kvs.length+more.length≤Uc)
  (hQ:∀h',h'.DictOf knd d (merged kvs more)→U5 d s.heap h'→Q () {s with heap:=h'}):Sq P.M A (XS d (.ref o) false) Q X s:=by
 obtain⟨od,esd,epd,hod,hcd,hdd,hkd,hpd,hnd⟩:=id hd;obtain⟨oo,J3,epo,hoo,hco,adV,hko,hpo,hno⟩:=ho;have R:MR knd oo J3 epo more:=⟨adV,hko,hpo⟩;have hlen:J3.size=more.length:=by rw[←hpo.length,UY]
 have ajK:esd.isEmpty=false:=by
  rw[←XM,Array.isEmpty_iff]
  rintro rfl
  exact hne (Zb.mp hpd.length.symm)
 have hT:s.TypeIs (.ref o) "dict":=⟨oo,hoo,hco.1⟩;unfold XS;refine Sm (WD hT PySem.F.sub_dict_dict ?_);rw[aG rfl];refine Sm (XQ hT JD ?_);refine Sm (Sx ?_);rw[show(some (apA "dict.__iter__")==some (apA "dict.__iter__"))=true from beq_self_eq_true _];dsimp only;rw[hoS,aJ Tc];refine Sm (Xu hod hdd ?_);rw[ajK,aJ Tc];refine Sm (Xu hoo adV ?_);refine Sm (Yz hoo adV ?_);rw[apB,hlen];refine Sm (G7 (λi u=> ?_) R hdo more.length 0 kvs s (Uq _) hoo hd hsz λh' h1 h2=>Sx (hQ h' h1 h2));rfl
end
theorem yo(f:(Option (SJ Value)×SJ Value)→(Option So×List (SJ Value×SJ Value))→SJ (ForInStep (Option So×List (SJ Value×SJ Value))))(main:Option So)
  (hf:∀(p:SJ Value×SJ Value) (run:List (SJ Value×SJ Value)),run.length+1<17→f (some p.1,p.2) (main,run)=pure (.yield (main,run++[p]))):
  ∀(items run:List (SJ Value×SJ Value)),run.length+items.length<17→forIn (items.map λp=>(some p.1,p.2)) (main,run) f=pure (main,run++items)
 |[],run,_=>by simp
 |p::rest,run,h=>by rw[TV,VL,hf p run (by simp at h;omega),pure_bind];have:=yo f main hf rest (run++[p]) (by simp at h⊢;omega);simpa using this
theorem CX(f:(Option (SJ Value)×SJ Value)→(Option So×List (SJ Value×SJ Value))→SJ (ForInStep (Option So×List (SJ Value×SJ Value))))(l₂:List (SJ Value×SJ Value))
  (hf:∀(p:SJ Value×SJ Value) (run:List (SJ Value×SJ Value)),run.length+1<17→f (some p.1,p.2) (none,run)=pure (.yield (none,run++[p])))
  (h17:∀(p:SJ Value×SJ Value) (run:List (SJ Value×SJ Value)),run.length+1=17→f (some p.1,p.2) (none,run)=(W6 (run++[p])>>= λd=>pure (.yield (some d,[])))):
  ∀(items run:List (SJ Value×SJ Value)),run.length+items.length=17→items≠[]→forIn ((items++l₂).map λp=>(some p.1,p.2)) (none,run) f=(W6 (run++items)>>= λd=>forIn (l₂.map λp=>(some p.1,p.2)) (some d,[]) f)
 |[],run,_,h=>absurd rfl h
 |[p],run,h,_=>by rw[apF,XT,TV,VL,h17 p run (by simpa using h)];simp
 |p::q::rest,run,h,_=>by rw[apF,TV,VL,hf p run (by simp at h;omega),pure_bind];have:=CX f l₂ hf h17 (q::rest) (run++[p]) (by simp at h⊢;omega) (by simp);simpa using this
theorem wJ(l₁ l₂:List (SJ Value×SJ Value))(h1:l₁.length=17)(h2:l₂≠[])(h3:l₂.length<17):
  dictDisplay ((l₁++l₂).map λp=>(some p.1,p.2))=(do
   let d←W6 l₁;let sub←US [.ref d] (W6 l₂)
   (US [.ref d,.ref sub] (XS d (.ref sub) false)).onRaise λx=>do let _←US [.ref d,x] (runValue (.builtin "proto.let_go" {}))
   pure (.ref d)):=by
 unfold dictDisplay;dsimp only;rw[CX _ l₂ (λp run h=>by
  have hne:((run++[(p.1,p.2)]).length==17)=false:=by simp;omega
  simp only[hne,Xv,if_false]) (λp run h=>by
  have he:((run++[(p.1,p.2)]).length==17)=true:=by simp;omega
  simp only[he,if_true];simp) l₁ [] (by simpa using h1) (by intro z;subst z;cases h1)]
 simp only[XT,bind_assoc]
 congr 1
 funext d
 rw[yo _ (some d) (λp run h=>by
  have hne:((run++[(p.1,p.2)]).length==17)=false:=by simp;omega
  simp only[hne,Xv,if_false]) l₂ [] (by simpa using h3)]
 simp[h2]
end
section
theorem El{K:Type}[DecidableEq K]{ps:List (K×Value)}{k:K}{v:Value}(h:(ps.map (·.1)).Nodup):((stored ps k v).map (·.1)).Nodup:=by
 unfold stored
 split
 ·rw[apx];exact h
 ·rename_i K2
  rw[TA,We];refine⟨h,Ui.mpr ⟨(λh=>nomatch h),Vl⟩,λa ha b hb e=>K2 ?_⟩
  obtain⟨kv,hkv,q⟩:=SW.mp ha;exact Y9.mpr ⟨kv,hkv,aC (q.trans (e.trans (Tp.mp hb)))⟩
theorem m6.ahh{ω:Wd}{k:KK}{us:List (V×V)}:∀{zs ps:List (k.T×Value)} {es:List (V×V)},m6 ω k.dec es ps→(ps.map (·.1)).Nodup→m6 ω k.dec us zs→m6 ω k.dec (us.foldl (λes p=>cT.bR p.1 p.2 es) es) (merged ps zs):=by
 induction us with
 |nil=>intro zs ps es a hn b;rw[show zs=[] from b];exact a
 |cons u us ih=>
  intro zs ps es a hn b;cases zs with
  |nil=>exact b.elim
  |cons z zs=>
   show m6 ω k.dec (us.foldl (λes p=>cT.bR p.1 p.2 es) (cT.bR u.1 u.2 es)) (merged (stored ps z.1 z.2) zs);exact ih (m6.bR b.1 b.2.1 a hn) (El hn) b.2.2
theorem m6.Dw{ω:Wd}{k:KK}{es:List (V×V)}:∀{ps:List (k.T×Value)},m6 ω k.dec es ps→(es.map (·.1)).Nodup→(ps.map (·.1)).Nodup:=by
 induction es with
 |nil=>intro ps a _;rw[show ps=[] from a];exact Vl
 |cons e es ih=>
  intro ps a hn;cases ps with
  |nil=>exact a.elim
  |cons p ps=>
   obtain⟨h1,h2⟩:=Ui.mp hn;exact Ui.mpr ⟨λz=>h1 ((m6.keys a.1 a.2.2).mp z),ih a.2.2 h2⟩
theorem wI(us:List (V×V)):∀es:List (V×V),(us.foldl (λes p=>bR p.1 p.2 es) es).length≤es.length+us.length:=by
 induction us with
 |nil=>exactλes=>SQ _
 |cons p us ih=>exactλes=>SG (ih _) (SG (W4 (oO _ _ _) _) (Te (Za _ _)))
noncomputable def q7(l:List Row)(vs:List V):List (V×V):=((l.map Row.n).zip vs).map λp=>(V.str p.1,p.2)
theorem rG(l:List Row)(vs:List V)(es:List (V×V)):nL l vs es=(q7 l vs).foldl (λes p=>bR p.1 p.2 es) es:=by unfold nL q7;rw[List.foldl_map]
theorem qm{l:List Row}{vs:List V}(h:vs.length=l.length):(q7 l vs).length=l.length:=by unfold q7;rw[Sy,VZ,Sy,h,VD]
theorem AX(l:List Row){vs:List V}(h:vs.length=l.length)(es:List (V×V)):(nL l vs es).length≤es.length+l.length:=by have:=wI (q7 l vs) es;rw[qm h] at this;rw[rG];exact this
theorem Dd(k v:V)(es:List (V×V)):bR k v es≠[]:=by
 cases es with
 |nil=>exactλh=>nomatch h
 |cons p es=>unfold bR;split<;>exactλh=>nomatch h
theorem Pz(us:List (V×V)):∀es:List (V×V),es≠[]→us.foldl (λes p=>bR p.1 p.2 es) es≠[]:=by
 induction us with
 |nil=>exactλ_ h=>h
 |cons u us ih=>exactλes _=>ih _ (Dd _ _ _)
theorem LR{l:List Row}{vs:List V}(h:vs.length=l.length)(h0:l.length=17):nL l vs []≠[]:=by
 rw[rG];have e:=qm h;cases q:q7 l vs with
 |nil=>rw[q] at e;exact nomatch e.trans h0
 |cons u us=>exact Pz us _ (Dd _ _ _)
theorem G0{l₁ l₂:List Row}{v₁ v₂:List V}(h:v₁.length=l₁.length):FP ((l₁++l₂).map Row.n) (v₁++v₂)=nL l₂ v₂ (nL l₁ v₁ []):=by unfold FP nL;rw[TA,List.zip_append (by rw[Sy,h]),List.foldl_append]
section
variable{c:Cx}{aa:List V}{ω₀:Wd}{X:Value→Sl→Prop}{kx:KX}{pos:SE}
theorem FG(hx:∀m',kx m'→IJ c.b W0 ω₀ X m'):∀(l:List Row) (ω:Wd) (sc:Sc) (k:List V→Sc→ai→Prop) (C:List (Value×Value)→Sl→Prop),oU c aa l→jz c aa ω₀ ω→vW l sc ω.m k kx→
  (∀vs sc ω₁ f7 kvs,vs.length=l.length→k vs sc ω₁.m→jz c aa ω₀ ω₁→fZ W0 ω ω₁→Carries (KK.str.knd c.b.P) f7 kvs→m6 ω₁ KK.str.dec (q7 l vs) kvs→C f7 ω₁.s)→Sq c.b.P.M c.b.A (evalPairs (l.map (Jx c pos))) C X ω.s:= λl=>by
 induction l with
 |nil=>exactλω sc k C ok B h hC=>evalPairs_nil (hC [] sc ω [] [] rfl h B .refl trivial rfl)
 |cons r l ih=>
  intro ω sc k C ok B h hC;refine evalPairs_cons (XK (env:=c.env) (k:=r.t) (pos:=r.p) ?_);refine Sm ?_;have G:cZ ω.s {ω.s with toks:=ω.s.toks+1}:=⟨λ_ _ e=>e,rfl⟩;have cj:=B.st.ext G.ext (G.bH B.st.bH);have E₁:=B.ext.trans B.st.bH .none G.ext;refine(ok r SI).2 sc (ω.at {ω.s with toks:=ω.s.toks+1}) cj _ X ⟨_,kx,h,λv fz m' hv ω₂ e R₂ E₂ pv rv=> ?_,λm' h=>(hx m' h).at E₁ cj.bH .none⟩;subst e;refine Sm (Uo (Sx ?_));refine ih ω₂ fz _ _ (λr hr=>ok r (S0 _ hr)) ⟨cj.ext E₂ R₂,E₁.trans cj.bH .none E₂⟩ hv λvs wH ω₃ f7 kvs hl hk B₃ E₃ cr kv=> ?_;exact hC (v::vs) wH ω₃ _ ((SH (gE r.n),pv)::kvs) (bk UE hl) hk B₃ ((G.ext.trans cj.bH .none E₂).trans R₂ .none E₃) ⟨beq_self_eq_true _,rfl,cr⟩ ⟨⟨r.n,(ok r SI).1,rfl,rfl⟩,rv.bg (E₃.PB R₂),kv⟩
theorem EH{ω:Wd}(R:c.b.bY ω):vc c (ω.at {ω.s with heap:=ω.h.push {cls:= .type "dict",data:= .dict #[]}}) ω.h.objs.size []:=
 ⟨⟨[],zA KK.str _,rfl⟩,R.j6 (bU _),fQ R.base (bU _)⟩
theorem vc.other{ω:Wd}{s':Sl}{D D':So}{es:List (V×V)}(S:vc c ω D es)(hs:Tn D' ω.h s'.heap)(hne:D≠D')(hd:∀o,ω.h.get? D'=some o→¬jR o):vc c (ω.at s') D es:=by obtain⟨⟨kvs,⟨o,iL,ep,ho,r⟩,kv⟩,f,b⟩:=S;exact⟨⟨kvs,⟨o,iL,ep,hs D o hne ho,r⟩,kv.bg (Br hs hd)⟩,f,b⟩
end
end
section
theorem FH{l:List Row}{vs:List V}(h:vs.length=l.length):(q7 l vs).map (·.1)=(l.map Row.n).map V.str:=by unfold q7;rw[T4];show((l.map Row.n).zip vs).map (V.str∘VX)=_;rw[←T4,List.map_fst_zip (Te (by rw[Sy,h]))]
section
variable{c:Cx}{aa:List V}{X:Value→Sl→Prop}{kx:KX}{pos:SE}
theorem vc.Dw{ω:Wd}{D:So}{es:List (V×V)}{kvs:List (KK.str.T×Value)}(d:ω.h.DictOf (KK.str.knd c.b.P) D kvs):(kvs.map (·.1)).Nodup:=by obtain⟨_,_,_,_,_,_,_,_,q⟩:=d;exact q
theorem Ho(ok:c.Ok){ω₀ ω:Wd}{D D':So}{es us:List (V×V)}{Q7:List (KK.str.T×Value)}{Q:Unit→Sl→Prop}(Lx:c.St aa ω₀)(hD:ω₀.h.get? D=none)(B:jz c aa ω₀ ω)(S:vc c ω D es)(hne:D≠D')(hb:c.b.B D'=none)(h0:es≠[])(d2:ω.h.DictOf (KK.str.knd c.b.P) D' Q7)(kv2:m6 ω KK.str.dec us Q7)
  (hsz:es.length+us.length≤ay) (hQ:∀h',jz c aa ω₀ (ω.at {ω.s with heap:=h'})→vc c (ω.at {ω.s with heap:=h'}) D (us.foldl (λes p=>bR p.1 p.2 es) es)→Q () {ω.s with heap:=h'}):Sq c.b.P.M c.b.A (XS D (.ref D') false) Q X ω.s:=by
 obtain⟨⟨kvs,dk,kv⟩,nf,nb⟩:=S;have aki:(D'==UX)=false:=beq_eq_false_iff_ne.mpr λz=>by have q:=ok.b.fb.sys;rw[←z,hb] at q;exact gg q
 have hk0:kvs≠[]:= λz=>h0 (Zb.mp (kv.length.trans (bk Vx z)));refine Lj hne aki hk0 dk d2 (by rw[←kv.length,←kv2.length];exact SG hsz gM) λh' d' hs=> ?_;have L:=Br (ω:=ω) (s':={ω.s with heap:=h'}) hs.extBut (fJ dk);exact hQ h' (B.pD (s':={ω.s with heap:=h'}) Lx hD nf nb hs.extBut rfl (fJ dk)) ⟨⟨_,d',(m6.ahh kv (vc.Dw (c:=c) (es:=es) dk) kv2).bg L⟩,nf,nb⟩
theorem aam(ok:c.Ok){l₁ l₂:List Row}{keys:List (Option Su)}{values:List Su}(h1:l₁.length=17)(h2:l₂≠[])(h3:l₂.length≤15)(nd:((l₂.map Row.n).map V.str).Nodup)(r₁:oU c aa l₁)(r₂:oU c aa l₂)
  (aez:(evalEachOpt keys c.env).zip ((evalEach values c.env).map λv=>do let x←v;WM pos;pure x)=((l₁++l₂).map (Jx c pos)).map λp=>(some p.1,p.2)):
  Ev c aa (.Dict keys values pos) (λsc m k kx=>vW (l₁++l₂) sc m (λvs sc m=>uA (newDict ((l₁++l₂).map Row.n) vs) m sc k) kx):= λsc ω st Q X w=>w.elim λk kx hp hk hx=>by
 have hp:vW (l₁++l₂) sc ω.m (λvs sc m=>uA (newDict ((l₁++l₂).map Row.n) vs) m sc k) kx:=hp;rw[MZ] at hp;have m1:(l₁.map (Jx c pos)).length=17:=Sy .. |>.trans h1
 have m2:(l₂.map (Jx c pos)).length=l₂.length:=Sy ..;rw[arm_eval_Dict,aez,TA,wJ _ _ m1 (λz=>h2 (UI.mp z)) (Sz (m2▸h3) (by decide))];refine Sm (Uo (Sm ?_));have hD:=bU ω.h;unfold W6;refine Sm (Y5 ?_);refine Sm (To ?_);rw[aJ (by rw[m1];decide)];refine Sm (VW ?_);have G:cZ ω.s {ω.s with heap:=ω.h.push {cls:= .type "dict",data:= .dict #[]}}:= .of λb o e=>S7 _ e;have B₀:jz c aa ω (ω.at {ω.s with heap:=ω.h.push {cls:= .type "dict",data:= .dict #[]}}):=⟨st.ext G.ext (G.bH st.bH),G.ext⟩;refine Sm (Kv (ω₀:=ω) (D:=ω.h.objs.size) _ (λp u=>by simp only[bind_assoc]) st hD hx l₁ [] _ sc _ _ r₁ B₀ (EH st.bH) (by rw[h1];decide) hp λv₁ gU ω₁ hl₁ hp₁ B₁ S₁=>Sx (Sx ?_));refine Sm (To (wpAny_subDict (knd:=KK.str.knd c.b.P) (m2▸h3) ?_));have G₁:cZ ω₁.s {ω₁.s with heap:=ω₁.h.push {cls:= .type "dict",data:= .dict #[]}}:= .of λb o e=>S7 _ e;have Rp:=G₁.bH B₁.st.bH;have Bp:jz c aa ω (ω₁.at {ω₁.s with heap:=ω₁.h.push {cls:= .type "dict",data:= .dict #[]}}):=⟨B₁.st.ext G₁.ext Rp,B₁.ext.trans B₁.st.bH .none G₁.ext⟩;have Sp:=S₁.ext B₁.st.bH G₁.ext;refine FG hx l₂ _ gU _ _ r₂ Bp hp₁ λv₂ wH ω₂ f7 Q7 hl₂ hk₂ B₂ E₂ cr kv₂=> ?_;have SD:=Sp.ext Rp E₂;obtain⟨⟨k2,d2,kv0⟩,nf2,nb2⟩:=(EH B₁.st.bH).ext Rp E₂;cases(show k2=[] from kv0);have hne:ω.h.objs.size≠ω₁.h.objs.size:=by obtain⟨⟨_,⟨o,_,_,ho,_⟩,_⟩,_⟩:=S₁;exact T9 (UG ho)
 have hD2:ω.h.get? ω₁.h.objs.size=none:=B₁.ext.A0 B₁.st.bH .none (bU _);refine⟨Q7,cr,d2,λh₃ d3 hs3=> ?_⟩;have L3:=Br (ω:=ω₂) (s':={ω₂.s with heap:=h₃,toks:=ω₂.s.toks+f7.length}) hs3.extBut (fJ d2);have B₃:=B₂.pD (s':={ω₂.s with heap:=h₃,toks:=ω₂.s.toks+f7.length}) st hD2 nf2 nb2 hs3.extBut rfl (fJ d2);have S₃:=SD.other (s':={ω₂.s with heap:=h₃,toks:=ω₂.s.toks+f7.length}) hs3.extBut hne (fJ d2);have kv₃:=kv₂.bg L3;rw[merged_nil_of_nodup _ (kv₃.Dw (FH hl₂▸nd))] at d3;have hsz:(nL l₁ v₁ []).length+(q7 l₂ v₂).length≤ay:=by rw[qm hl₂];exact SG (W7 (SG (AX l₁ hl₁ []) (Te (by rw[h1]))) h3) (by decide)
 refine Sm (apG (To (Ho ok st hD B₃ S₃ hne nb2 (LR hl₁ h1) d3 kv₃ hsz λh₄ B₄ S₄=>Sx ?_)));rw[←rG] at S₄;obtain⟨⟨aoC,dF,kvF⟩,nfF,nbF⟩:=S₄;obtain⟨y,m',fz,e1,h⟩:=xw hk₂;cases e1;rw[G0 hl₁] at h;have ajV:(nL l₂ v₂ (nL l₁ v₁ [])).length≤ay:=SG (AX l₂ hl₂ _) (by rw[←qm hl₂];exact hsz);exact hk _ _ _ h (ω₂.add (.dict .str (nL l₂ v₂ (nL l₁ v₁ []))) ω.h.objs.size ω.h.objs.size _) rfl (bY.add B₄.st.bH nfF nfF nbF nbF (ko.dict dF kvF ajV)) (fZ.add B₄.ext hD hD) _
  ⟨SX (T3 _) (Te Wd.tW.symm),bk T7 (Loc.add_r ω₂.σ ω₂.n _ _).symm⟩
noncomputable def jC(C:Cl)(aa:List V):List Nat→List Su→List Su→Es→List Row
 |[],_,_,_=>[]
 |k::ks,kl,l,es=>match es with
  |.zn=>[]
  |.zc e es=>⟨k,zy (top kl),(top kl).pos,ig e (top l),rE C aa e⟩::jC C aa ks kl.tail l.tail es
noncomputable def Es.len:Es→Nat
 |.zn=>0
 |.zc _ es=>es.len+1
structure Rc(c:Cx)(C:Cl)(aa:List V)(pos:SE)(ks:List Nat)(kl l:List Su)(es:Es):Prop where
 run:∀sc m k kx,vW (jC C aa ks kl l es) sc m k kx=Hr C aa es sc m k kx
 R4:(jC C aa ks kl l es).map Row.n=ks
 abn:(evalEachOpt (Na ks kl) c.env).zip ((evalEach (iI es l) c.env).map λv=>do let x←v;WM pos;pure x)=((jC C aa ks kl l es).map (Jx c pos)).map λp=>(some p.1,p.2)
theorem O5{C:Cl}(ks:List Nat):∀(kl l:List Su) (es:Es),es.len=ks.length→Rc c C aa pos ks kl l es:=by
 induction ks with
 |nil=>
  intro kl l es h;cases es with
  |zn=>exact⟨λ_ _ _ _=>rfl,rfl,rfl⟩
  |zc e es=>exact nomatch h
 |cons k ks ih=>
  intro kl l es h;cases es with
  |zn=>exact nomatch h
  |zc e es=>
   have q:=ih kl.tail l.tail es (VH h);exact⟨λsc m k' kx=>bk (λz=>rE C aa e sc m z kx) (funext λv=>funext λsc=>funext λm=>q.run _ _ _ _),bk (k:: ·) q.R4,bk (_:: ·) q.abn⟩
theorem NO(ok:c.Ok){C:Cl}{ks:List Nat}{kl l:List Su}{es:Es}(hl:es.len=ks.length)(h1:17<ks.length)(h2:ks.length≤32)(nd:((ks.drop 17).map V.str).Nodup)(r:oU c aa (jC C aa ks kl l es)):
  Ev c aa (.Dict (Na ks kl) (iI es l) pos) (λsc m k kx=>Hr C aa es sc m (λvs sc m=>uA (newDict ks vs) m sc k) kx):= λsc ω st Q X w=>by
 have a:=O5 (c:=c) (C:=C) (aa:=aa) (pos:=pos) ks kl l es hl;have len:(jC C aa ks kl l es).length=ks.length:=by rw[←Sy (f:=Row.n),a.R4]
 have e:=Zc 17 (jC C aa ks kl l es);have main:=aam (aa:=aa) (pos:=pos) ok (l₁:=(jC C aa ks kl l es).take 17) (l₂:=(jC C aa ks kl l es).drop 17) (keys:=Na ks kl) (values:=iI es l) (by rw[YJ,len];exact apH (Tv h1)) (λz=>absurd (List.drop_eq_nil_iff.mp z) (by rw[len];exact Wg.mpr h1)) (by rw[Vu,len];exact Nat.sub_le_of_le_add h2)
  (by rw[XU,a.R4];exact nd) (λr' h=>r r' (List.mem_of_mem_take h)) (λr' h=>r r' (apI h)) (by rw[e];exact a.abn)
 rw[e,a.R4] at main;exact main sc ω st Q X (w.elim λk kx hp hk hx=>⟨k,kx,Eq.mpr (a.run sc ω.m (λvs sc m=>uA (newDict ks vs) m sc k) kx) hp,hk,hx⟩)
end
end
section
structure Sk where
 names:List (Sv×S5)
 nm:List (Sv×Nat)
 q:Bool
noncomputable def Sk.var(sk:Sk)(k:Nat)(x:Sv):Bool:=fX x&&(sk.nm.lookup x==some k&&own (sk.names.lookup x))
noncomputable def Sk.gl(sk:Sk)(x:String):Bool:=fX (SH x)&&sk.names.lookup (SH x)==some .globalImplicit
noncomputable def rK:nO→Su→List (Sv×Nat)
 |.aA k,pe=>[(Ae pe,k)]
 |.iJ ks,pe=>((e8 pe).map Ae).zip ks
noncomputable def Sk.zd(sk:Sk)(scope:TY)(tn:List (Sv×Nat)):Sk:=⟨wz scope.names sk.names,tn++sk.nm,sk.q⟩
noncomputable def Sk.comp(sk:Sk)(scope:TY)(t:nO)(pe:Su):Bool:=
 Fb sk.names sk.nm scope (rK t pe)&&(decide ((rK t pe).map (·.2)=t.slots)&&zZ (wz scope.names sk.names) (rK t pe++sk.nm) ((rK t pe).map (·.1)) t pe)
noncomputable def Sk.ML(sk:Sk)(f:Fn):Bool:=f.ok&&(!sk.q||f.quiet)
noncomputable def Es.few:Es→Bool
 |.zn=>true
 |.zc _ es=>match es with|.zn=>true|.zc _ _=>false
noncomputable def dot(apos pos:SE):Bool:=apos.endLine==pos.line
mutual
noncomputable def lZ(sk:Sk):E→Su→Bool
 |.stuck,_=>true
 |.zv k,pe=>sk.var k (Ae pe)
 |.zl v,pe=>Iv v (Cf pe)
 |.dI g,_=>g.ok&&sk.gl g.name
 |.cW _ a b,pe=>lZ sk a (dR 0 pe)&&lZ sk b (dR 1 pe)
 |.cmp op a b,pe=> !behindInMarks (N8 op) (ig b (dR 1 pe))&&(lZ sk a (dR 0 pe)&&lZ sk b (dR 1 pe))
 |.not a,pe=>lZ sk a (dR 0 pe)
 |.neg a,pe=>lZ sk a (dR 0 pe)
 |.and es,pe=>pU sk es (e8 pe)
 |.or es,pe=>pU sk es (e8 pe)
 |.ite c t e,pe=>lZ sk c (dR 0 pe)&&(lZ sk t (dR 1 pe)&&lZ sk e (dR 2 pe))
 |.nq a,pe=>lZ sk a (dR 0 pe)
 |.vR a,pe=>lZ sk a (dR 0 pe)
 |.attr x o,pe=>x.ok&&(iD (ig o (dR 0 pe))&&lZ sk o (dR 0 pe))
 |.idx o i,pe=>lZ sk o (dR 0 pe)&&lZ sk i (dR 1 pe)
 |.slice o lo hi,pe=>lZ sk o (dR 0 pe)&&((lo.few&&hi.few)&&(pU sk lo (e8 (dR 1 pe))&&pU sk hi (e8 (dR 1 pe)).reverse))
 |.list es,pe=>pU sk es (e8 pe)
 |.bJ es,pe=>UC (iI es (e8 pe)).length 1000&&pU sk es (e8 pe)
 |.pQ _,_=>true
 |.dict ks vs,pe=>(ks.all (S8 · yY)&&SA vs.len ks.length)&&((S8 17 ks.length&&UC ks.length 32)&&(decide ((ks.drop 17).map V.str).Nodup&&pU sk vs ((e8 pe).drop ks.length)))
 |.comp t it cs el,pe=>(um (ig it (dR 2 pe))&&lZ sk it (dR 2 pe))&&(sk.comp (i6 pe) t (dR 1 pe)&&(cs.few&&(pU (sk.zd (i6 pe) (rK t (dR 1 pe))) cs ((e8 pe).drop 3)&&lZ (sk.zd (i6 pe) (rK t (dR 1 pe))) el (dR 0 pe))))
 |.bi f args,pe=>sk.gl f.name&&((f.rA (iI args (e8 pe).tail).length&&(!f.Cv|| !sk.q))&&pU sk args (e8 pe).tail)
 |.me f o args,pe=>(iD (ig o (dR 0 (dR 0 pe)))&&dot (dR 0 pe).pos pe.pos)&&(SA (iI args (e8 pe).tail).length f.rA&&(lZ sk o (dR 0 (dR 0 pe))&&pU sk args (e8 pe).tail))
 |.new c args,pe=>sk.gl c.name&&((c.ok&&sk.ML c.CQ)&&pU sk args (e8 pe).tail)
 |.call f args,pe=>sk.gl f.qual&&((f.top&&sk.ML f)&&pU sk args (e8 pe).tail)
 |.aU f c x o args,pe=>(iD (ig o (dR 0 (dR 0 pe)))&&dot (dR 0 pe).pos pe.pos)&&((x.ok&&(sk.ML f&&(S8 (iI args (e8 pe).tail).length 29&&c.BZ x==some f)))&&(lZ sk o (dR 0 (dR 0 pe))&&pU sk args (e8 pe).tail))
noncomputable def pU(sk:Sk):Es→List Su→Bool
 |.zn,_=>true
 |.zc e es,l=>fK (ig e (top l))&&(lZ sk e (top l)&&pU sk es l.tail)
end
noncomputable def okC(sk:Sk)(t:nO)(cs:Es)(el:E)(pe:Su):Bool:=sk.comp (i6 pe) t (dR 1 pe)&&(cs.few&&(pU (sk.zd (i6 pe) (rK t (dR 1 pe))) cs ((e8 pe).drop 3)&&lZ (sk.zd (i6 pe) (rK t (dR 1 pe))) el (dR 0 pe)))
structure Cx.On(c:Cx)(sk:Sk):Prop where
 names:c.env.scope.names=sk.names
 nm:c.nm=sk.nm
 q:c.q=sk.q
noncomputable def asK{α:Type}(Q:α→ai→Prop)(X:ai→Prop):K α:= λk kx=>(∀v m',Q v m'→∃sc,k v sc m')∧∀m',X m'→kx m'
noncomputable def IA(C:Cl)(f:Fn)(vs:List V)(m:ai)(sc:Sc):K V:= λk kx=>E6 (C.sp f vs) m sc (λsc=>C.run f vs sc m k kx) k kx
structure Pq(C:Cl)(G:Bx→Prop):Prop where
 call:∀b,G b→∀f vs m sc,f.ok=true→kj b f.quiet f vs m (IA C f vs m sc)∧∀args,kj (b.new args) f.quiet f vs m (IA C f vs m sc)
 cp:∀t cs el env v m Q X,C.cp t cs el env v m Q X→∀(c:Cx) (sk:Sk) pe,G c.b→c.Ok→c.On sk→okC sk t cs el pe=true→∀ω pv,ω.m=m→c.St env ω→VR ω v pv→mZ c (i6 pe) t (dR 1 pe) (ig el (dR 0 pe)) (iI cs ((e8 pe).drop 3)) ω v pv λys m=>Q (.ref m.next) (m.push (.list ys))
section
variable{α γ:Type}{b:Bx}{W:So→Prop}{ω:Wd}{rl:Wd→α→γ→Prop}{c:Cx}{sk:Sk}{aa:List V}
theorem Bo.nox{t:SJ γ}{p:K α}(h:Bo b W ω rl t p):Bo b W ω rl t (λk _=>p k λ_=>False):= λQ X w=>w.elim λk _ hp hk _=>h Q X ⟨k,_,hp,hk,λ_ h=>h.elim⟩
theorem Cx.On.var(on:c.On sk){k:Nat}{x:Sv}(h:sk.var k x=true):fX x=true∧c.nm.lookup x=some k∧own (c.env.kindOf x)=true:=by obtain⟨h1,h⟩:=Sn.mp h;obtain⟨h2,h3⟩:=Sn.mp h;exact⟨h1,on.nm▸eq_of_beq h2,by unfold Y3;rw[on.names];exact h3⟩
theorem Cx.On.gl(on:c.On sk){x:String}(h:sk.gl x=true):fX (SH x)=true∧c.env.kindOf (SH x)=some .globalImplicit:=by obtain⟨h1,h2⟩:=Sn.mp h;exact⟨h1,by unfold Y3;rw[on.names];exact eq_of_beq h2⟩
theorem GJ{p q:Bool}(h:(!p||q)=true)(hp:p=true):q=true:=by cases p<;>cases q<;>first|rfl|exact gg h|exact gg hp
theorem Cx.On.ML(on:c.On sk){f:Fn}(h:sk.ML f=true):f.ok=true∧(c.q=true→f.quiet=true):=
 have q:=Sn.mp h
 ⟨q.1,λhq=>GJ q.2 (on.q▸hq)⟩
theorem Cx.On.Cv(on:c.On sk)(ok:c.Ok){l:Bool}(h:(!l|| !sk.q)=true)(hl:l=true):c.b.A.handled=none:=ok.quiet.elim id λhq=>by have:=GJ h hl;rw[←on.q,hq] at this;exact gg this
theorem nS:∀{es:Es} {l:List Su},pU sk es l=true→(iI es l).all fK=true:= λ{es}=>by
 induction es using Es.rec (motive_1:= λ_=>True) with
 |zn=>exactλ_=>rfl
 |zc e es _ ih=>
  intro l h;obtain⟨h1,h⟩:=Sn.mp h;exact Sn.mpr ⟨h1,ih (Sn.mp h).2⟩
 |_=>trivial
theorem C5(ok:c.Ok){lO:SY}{nm:List (Sv×Nat)}(hk:lO.scope.kind=.function)(hg:lO.globals=c.env.globals)(hb:lO.builtins=c.env.builtins):Cx.Ok {c with env:=lO,nm:=nm}:=
 ⟨ok.b,hk,hg.trans ok.dI,hb.trans ok.bi,ok.units,ok.quiet⟩
end
end
section
def p5(c:Cx)(aa:List V)(pe:Su)(x:Sc→ai→K V):Prop:=Ev c aa pe x∧Tr c aa pe (dS x)
theorem p5.plain{c:Cx}{aa:List V}{pe:Su}{x:Sc→ai→K V}(h:Ev c aa pe x)(he:∀whole,isTrue pe c.env whole=(do let v←whole;WM pe.pos;US [v] (V2 v))):p5 c aa pe x:=⟨h,Mb h he⟩
theorem p5.cmp{c:Cx}{aa:List V}{l r:Su}{o:WA}{pos:SE}{x:Sc→ai→K V}(h:Ev c aa (.Compare l [o] [r] pos) x):p5 c aa (.Compare l [o] [r] pos) x:=⟨h,G6 h⟩
theorem p5.no{c:Cx}{aa:List V}{pe:Su}:p5 c aa pe (λ_ _ _ _=>False):=⟨λ_ _ _ _ _ w=>w.no,λ_ _ _ _ _ w=>w.no⟩
theorem p5.aA{c:Cx}{aa:List V}{q:Bool}{pe:Su}{pos:SE}{x:Sc→ai→K V}(h:p5 c aa pe x):p5 c aa (.BoolOp (pA q) [pe] pos) x:=⟨λsc ω st Q X w=>BoolOp_one (h.1 sc ω st Q X w),G8 h.2⟩
theorem p5.more{c:Cx}{aa:List V}{q:Bool}{e e₂:Su}{rest:List Su}{pos:SE}{x y:Sc→ai→K V}(h:p5 c aa e x)(hr:p5 c aa (.BoolOp (pA q) (e₂::rest) pos) y):p5 c aa (.BoolOp (pA q) (e::e₂::rest) pos) (Rz q x y):=⟨Du h.1 hr.1,Eh h.2 hr.2⟩
structure LB(c:Cx)(aa:List V)(l:List Su)(C:Cl)(es:Es):Prop where
 ev:NF c aa l (Hr C aa es)
 and:∀pos,p5 c aa (.BoolOp .And l pos) (adx C aa es)
 or:∀pos,p5 c aa (.BoolOp .Or l pos) (rOr C aa es)
 part:es.few=true→EvP c aa l.head? (Hr C aa es)
 IE:es.few=true→Fi c aa l (λsc m k _=>rT C aa es sc m k)
abbrev aej(G:Bx→Prop)(C:Cl)(e:E):Prop:= ∀c sk pe,G c.b→c.Ok→c.On sk→lZ sk e pe=true→∀aa,p5 c aa (ig e pe) (rE C aa e)
abbrev IU(G:Bx→Prop)(C:Cl)(es:Es):Prop:= ∀c sk l,G c.b→c.Ok→c.On sk→pU sk es l=true→∀aa,LB c aa (iI es l) C es∧∀ks kl,ks.all (S8 · yY)=true→oU c aa (jC C aa ks kl l es)
section
variable{G:Bx→Prop}{C:Cl}{c:Cx}{sk:Sk}{aa:List V}
theorem zo(H:Pq C G)(g:G c.b):xH c (IA C):= λf vs m sc hf _=>H.call c.b g f vs m sc hf
theorem LW{l:List Su}:LB c aa (iI .zn l) C .zn:=⟨Qm,λ_=> .no,λ_=> .no,λ_=>QF,λ_=>K0⟩
theorem DF{l:List Su}(ks:List Nat)(kl:List Su)(_:ks.all (S8 · yY)=true):oU c aa (jC C aa ks kl l .zn):=by cases ks<;>exactλr h=>nomatch h
theorem AK{e:E}{es:Es}{l:List Su}(he:Ev c aa (ig e (top l)) (rE C aa e))(hs:∀ks kl,ks.all (S8 · yY)=true→oU c aa (jC C aa ks kl l.tail es))(ks:List Nat)(kl:List Su)(h:ks.all (S8 · yY)=true):oU c aa (jC C aa ks kl l (.zc e es)):=by
 cases ks with
 |nil=>exactλr h=>nomatch h
 |cons k ks=>
  obtain⟨h1,h2⟩:=Sn.mp h;intro r hr;rcases SO.mp hr with rfl|hr
  ·exact⟨TF h1,he⟩
  ·exact hs ks kl.tail h2 r hr
theorem Iq{e:E}{es:Es}{l:List Su}(hn:fK (ig e (top l))=true)(he:p5 c aa (ig e (top l)) (rE C aa e))(hs:LB c aa (iI es l.tail) C es):LB c aa (iI (.zc e es) l) C (.zc e es) where
 ev:=ND hn he.1 hs.ev
 and pos:=by
  cases es with
  |zn=>exact he.aA (q:=true)
  |zc e' es'=>exact he.more (q:=true) (hs.and pos)
 or pos:=by
  cases es with
  |zn=>exact he.aA (q:=false)
  |zc e' es'=>exact he.more (q:=false) (hs.or pos)
 part h:=by
  cases es with
  |zn=>exact Sa he.1
  |zc e' es'=>exact gg h
 IE h:=by
  cases es with
  |zn=>exactλsc ω st=>(JB he.2 sc ω st).nox
  |zc e' es'=>exact gg h
theorem Ck(on:c.On sk){scope:TY}{t:nO}{pe:Su}(h:sk.comp scope t pe=true):
  sr c.env.scope.names c.nm scope (rK t pe)∧(rK t pe).map (·.2)=t.slots∧zZ (wz scope.names c.env.scope.names) (rK t pe++c.nm) ((rK t pe).map (·.1)) t pe=true:=by
 obtain⟨h1,h⟩:=Sn.mp h;obtain⟨h2,h3⟩:=Sn.mp h;rw[on.names,on.nm];exact⟨DL h1,of_decide_eq_true h2,h3⟩
theorem DP(on:c.On sk){scope:TY}{tn:List (Sv×Nat)}{lO:SY}(hn:lO.scope.names=wz scope.names c.env.scope.names):Cx.On {c with env:=lO,nm:=tn++c.nm} (sk.zd scope tn):=
 ⟨by rw[hn,on.names];rfl,bk (tn++ ·) on.nm,on.q⟩
theorem D6{t:nO}{el:E}{cs:Es}{pe:Su}(g:G c.b)(ok:c.Ok)(on:c.On sk)(h:okC sk t cs el pe=true)(hs:IU G C cs)(hl:aej G C el):
  PI c (i6 pe) (rK t (dR 1 pe)) t (dR 1 pe) (ig el (dR 0 pe)) (iI cs ((e8 pe).drop 3)) (λenv sc m k _=>rT C env cs sc m k) (λenv=>rE C env el):=by
 obtain⟨h1,h⟩:=Sn.mp h;obtain⟨h4,h⟩:=Sn.mp h;obtain⟨h5,h6⟩:=Sn.mp h;obtain⟨sf,ht,tg⟩:=Ck on h1;exact⟨ok,sf,ht,tg,λlO e1 e2 e3 e4 cF=>⟨(hs {c with env:=lO,nm:=rK t (dR 1 pe)++c.nm} _ _ g (C5 ok e2 e3 e4) (DP on e1) h5 cF).1.IE h4,(hl {c with env:=lO,nm:=rK t (dR 1 pe)++c.nm} _ _ g (C5 ok e2 e3 e4) (DP on e1) h6 cF).1⟩⟩
theorem A8(H:Pq C G){t:nO}{el:E}{cs:Es}{pe:Su}(g:G c.b)(ok:c.Ok)(on:c.On sk)(h:okC sk t cs el pe=true)(hs:IU G C cs)(hl:aej G C el){ω:Wd}{v:V}{pv:Value}{sc:Sc}{k:KV}(st:c.St aa ω)(r:VR ω v pv)
  (hk:E6 (C.cp t cs el aa v) ω.m sc (λsc=>Pf t aa (λenv sc m k _=>rT C env cs sc m k) (λenv=>rE C env el) v ω.m k sc) k λ_=>False):
  mZ c (i6 pe) t (dR 1 pe) (ig el (dR 0 pe)) (iI cs ((e8 pe).drop 3)) ω v pv (HR k):=by
 rcases Je hk with⟨sc,h'⟩|⟨Q,X,h',hq,_⟩
 ·exact N9 (D6 g ok on h hs hl) st r h'
 ·exact(H.cp _ _ _ _ _ _ _ _ h' c sk pe g ok on h ω pv rfl st r).bg λys m=>hq _ _
theorem AH(H:Pq C G)(e:E):aej G C e:=by
 induction e using E.rec (motive_2:=IU G C) with
 |stuck=>exactλ_ _ _ _ _ _ _ _=> .no
 |zv k=>intro c sk pe g ok on h aa;obtain⟨h1,h2,h3⟩:=on.var h;exact .plain (ae1 ok h1 h2 h3) λ_=>rfl
 |zl v=>intro c sk pe g ok on h aa;exact .plain (ae0 h) λ_=>rfl
 |dI gl=>intro c sk pe g ok on h aa;obtain⟨h1,h2⟩:=Sn.mp h;obtain⟨h3,h4⟩:=on.gl h2;exact .plain (QV ok h1 h3 h4) λ_=>rfl
 |cW op a b ha hb=>intro c sk pe g ok on h aa;obtain⟨h1,h2⟩:=Sn.mp h;exact .plain (ab1 (ha _ _ _ g ok on h1 aa).1 (hb _ _ _ g ok on h2 aa).1) λ_=>rfl
 |cmp op a b ha hb=>
  intro c sk pe g ok on h aa;obtain⟨h0,h⟩:=Sn.mp h;obtain⟨h1,h2⟩:=Sn.mp h;exact .cmp (abO ok ((Wb _).mp h0) (ha _ _ _ g ok on h1 aa).1 (hb _ _ _ g ok on h2 aa).1)
 |not a ha=>intro c sk pe g ok on h aa;exact⟨acm (ha _ _ _ g ok on h aa).1,acT (ha _ _ _ g ok on h aa).2⟩
 |neg a ha=>intro c sk pe g ok on h aa;exact .plain (abW (ha _ _ _ g ok on h aa).1) λ_=>rfl
 |and es hs=>intro c sk pe g ok on h aa;exact(hs _ _ _ g ok on h aa).1.and _
 |or es hs=>intro c sk pe g ok on h aa;exact(hs _ _ _ g ok on h aa).1.or _
 |ite a t e ha ht he=>
  intro c sk pe g ok on h aa;obtain⟨h0,h⟩:=Sn.mp h;obtain⟨h1,h2⟩:=Sn.mp h;exact⟨adm (ha _ _ _ g ok on h0 aa).2 (ht _ _ _ g ok on h1 aa).1 (he _ _ _ g ok on h2 aa).1,acj (ha _ _ _ g ok on h0 aa).2 (ht _ _ _ g ok on h1 aa).2 (he _ _ _ g ok on h2 aa).2⟩
 |nq a ha=>intro c sk pe g ok on h aa;exact .cmp (BG (ha _ _ _ g ok on h aa).1)
 |vR a ha=>intro c sk pe g ok on h aa;exact .cmp (MA ok (ha _ _ _ g ok on h aa).1)
 |attr x o ho=>intro c sk pe g ok on h aa;obtain⟨h0,h⟩:=Sn.mp h;obtain⟨h1,h2⟩:=Sn.mp h;exact .plain (Q0 ok h0 h1 (ho _ _ _ g ok on h2 aa).1) λ_=>rfl
 |idx o i ho hi=>intro c sk pe g ok on h aa;obtain⟨h1,h2⟩:=Sn.mp h;exact .plain (abY (ho _ _ _ g ok on h1 aa).1 (hi _ _ _ g ok on h2 aa).1) λ_=>rfl
 |slice o lo hi ho hl hh=>
  intro c sk pe g ok on h aa;obtain⟨h0,h⟩:=Sn.mp h;obtain⟨hf,h⟩:=Sn.mp h;obtain⟨f1,f2⟩:=Sn.mp hf;obtain⟨h1,h2⟩:=Sn.mp h;exact .plain (PK (ho _ _ _ g ok on h0 aa).1 ((hl _ _ _ g ok on h1 aa).1.part f1) ((hh _ _ _ g ok on h2 aa).1.part f2)) λ_=>rfl
 |list es hs=>intro c sk pe g ok on h aa;exact .plain (Ru (hs _ _ _ g ok on h aa).1.ev) λ_=>rfl
 |bJ es hs=>intro c sk pe g ok on h aa;obtain⟨h1,h2⟩:=Sn.mp h;exact .plain (ac8 (hs _ _ _ g ok on h2 aa).1.ev (SG (TF h1) (by decide))) λ_=>rfl
 |pQ k=>intro c sk pe g ok on h aa;exact .plain Rd λ_=>rfl
 |dict ks vs hs=>
  intro c sk pe g ok on h aa;obtain⟨h1,h⟩:=Sn.mp h;obtain⟨h2,h3⟩:=Sn.mp h1;obtain⟨h4,h⟩:=Sn.mp h;obtain⟨h5,h6⟩:=Sn.mp h4;obtain⟨h7,h8⟩:=Sn.mp h;exact .plain (NO ok (T8 h3) (TF h5) (TF h6) (of_decide_eq_true h7) ((hs _ _ _ g ok on h8 aa).2 ks _ h2)) λ_=>rfl
 |comp t it cs el hi hs hl=>
  intro c sk pe g ok on h aa;obtain⟨h1,h⟩:=Sn.mp h;obtain⟨h2,h3⟩:=Sn.mp h1;exact .plain (HZ ok (Ck on (Sn.mp h).1).1 h2 (hi _ _ _ g ok on h3 aa).1 λω v pv sc k st r hk=>A8 H g ok on h hs hl st r hk) λ_=>rfl
 |bi f es hs=>
  intro c sk pe g ok on h aa;obtain⟨h0,h⟩:=Sn.mp h;obtain⟨h1,h2⟩:=Sn.mp h;obtain⟨h3,h4⟩:=Sn.mp h1;exact .plain (ahC ok rfl (on.gl h0).2 (nS h2) h3 (on.Cv ok h4) (hs _ _ _ g ok on h2 aa).1.ev) λ_=>rfl
 |me f o es ho hs=>
  intro c sk pe g ok on h aa;obtain⟨h0,h⟩:=Sn.mp h;obtain⟨h1,h⟩:=Sn.mp h;obtain⟨h2,h3⟩:=Sn.mp h;obtain⟨h4,h5⟩:=Sn.mp h0;exact .plain (agS ok h4 h5 (nS h3) h1 (ho _ _ _ g ok on h2 aa).1 (hs _ _ _ g ok on h3 aa).1.ev) λ_=>rfl
 |new k es hs=>
  intro c sk pe g ok on h aa;obtain⟨h0,h⟩:=Sn.mp h;obtain⟨h1,h2⟩:=Sn.mp h;obtain⟨h3,h4⟩:=Sn.mp h1;exact .plain (ab6 ok (zo H g) (on.gl h0).1 rfl h3 (on.ML h4).1 (on.gl h0).2 (on.ML h4).2 (nS h2) (hs _ _ _ g ok on h2 aa).1.ev) λ_=>rfl
 |call f es hs=>
  intro c sk pe g ok on h aa;obtain⟨h0,h⟩:=Sn.mp h;obtain⟨h1,h2⟩:=Sn.mp h;obtain⟨h3,h4⟩:=Sn.mp h1;exact .plain (RN ok (zo H g) (on.gl h0).1 rfl (on.ML h4).1 h3 (on.gl h0).2 (on.ML h4).2 (nS h2) (hs _ _ _ g ok on h2 aa).1.ev) λ_=>rfl
 |aU f k x o es ho hs=>
  intro c sk pe g ok on h aa;obtain⟨h0,h⟩:=Sn.mp h;obtain⟨h1,h⟩:=Sn.mp h;obtain⟨h2,h3⟩:=Sn.mp h;obtain⟨h4,h5⟩:=Sn.mp h0;obtain⟨q1,q⟩:=Sn.mp h1;obtain⟨q2,q⟩:=Sn.mp q;obtain⟨q3,q4⟩:=Sn.mp q;exact .plain (MW ok (zo H g) q1 h4 h5 (nS h3) (TF q3) (on.ML q2).1 (eq_of_beq q4) (on.ML q2).2 (ho _ _ _ g ok on h2 aa).1 (hs _ _ _ g ok on h3 aa).1.ev) λ_=>rfl
 |zn=>exactλ_ _ _ _ _ _ _ _=>⟨LW,DF⟩
 |zc e es he hs=>intro c sk l g ok on h aa;obtain⟨h1,h⟩:=Sn.mp h;obtain⟨h2,h3⟩:=Sn.mp h;exact⟨Iq h1 (he _ _ _ g ok on h2 aa) (hs _ _ _ g ok on h3 aa).1,AK (he _ _ _ g ok on h2 aa).1 (hs _ _ _ g ok on h3 aa).2⟩
theorem LH(H:Pq C G)(es:Es):IU G C es:=by
 induction es using Es.rec (motive_1:= λ_=>True) with
 |zn=>exactλ_ _ _ _ _ _ _ _=>⟨LW,DF⟩
 |zc e es _ hs=>intro c sk l g ok on h aa;obtain⟨h1,h⟩:=Sn.mp h;obtain⟨h2,h3⟩:=Sn.mp h;exact⟨Iq h1 (AH H e _ _ _ g ok on h2 aa) (hs _ _ _ g ok on h3 aa).1,AK (AH H e _ _ _ g ok on h2 aa).1 (hs _ _ _ g ok on h3 aa).2⟩
 |_=>trivial
end
end
section
abbrev Cx.W(c:Cx):So→Prop:=WN c (c.nm.map (·.1))
noncomputable def Lr(c:Cx)(ω:Wd):Fl→Flow→Prop
 |.next aa,pf=>pf=.next∧aX c aa ω
 |.cont aa,pf=>pf=.cont∧aX c aa ω
 |.ret v,pf=> ∃pv,pf=.ret pv∧VR ω v pv
def Ex(c:Cx)(ps:S1)(p:List V→Sc→ai→K Fl):Prop:= ∀aa sc ω,c.St aa ω→Bo c.b c.W ω (Lr c) (apJ ps c.env) (p aa sc ω.m)
def Ls(c:Cx)(ps:List S1)(p:List V→Sc→ai→K Fl):Prop:= ∀aa sc ω,c.St aa ω→Bo c.b c.W ω (Lr c) (XW ps c.env) (p aa sc ω.m)
section
variable{α β γ δ:Type}{c:Cx}{aa:List V}{ω:Wd}{rl:Wd→α→γ→Prop}{rm:Wd→β→δ→Prop}{Q:γ→Sl→Prop}{X:Value→Sl→Prop}
theorem Cx.St.wf(st:c.St aa ω):∀b,c.W b→¬ez ω b:= λb w=>(st.lX.own w).1
theorem fC.p7{W:So→Prop}{b:Bx}{ω ω':Wd}{x:So}(F:fC b W0 ω ω' x)(hf:∀b,W b→¬ez ω b):fC b W ω ω' x:=⟨F.bH,F.new,F.exc,F.ext.p7 hf,F.tb⟩
theorem Bo.jk{t:SJ δ}{p:K β}{f:β→Sc→ai→K α}{C:δ→Sl→Prop}(h:Bo c.b W0 ω rm t p)(st:c.St aa ω)(w:cP c.b c.W ω rl (λk kx=>p (λv sc m=>f v sc m k kx) kx) Q X)
  (k:∀ω₁ v sc pv,c.St aa ω₁→Le ω ω₁→rm ω₁ v pv→cP c.b c.W ω₁ rl (f v sc ω₁.m) Q X→C pv ω₁.s):Sq c.b.P.M c.b.A t C X ω.s:=
 w.elim λk' kx hp hk hx=>h C X ⟨_,kx,hp,λv sc m hf ω₁ e R E pv r=>k ω₁ v sc pv (st.ext E R) (E.PB st.bH) r ⟨k',kx,e▸hf,λv sc m h=>(hk v sc m h).at (E.p7 st.wf) R st.lX.ws,λm h=>(hx m h).at (E.p7 st.wf) R st.lX.ws⟩,
  λm h=>⟨(hx m h).1,λω' x e F=>(hx m h).2 ω' x e (F.p7 st.wf)⟩⟩
theorem HS{t:SJ Unit}{m':ai}{p:K α}{C:Unit→Sl→Prop}(st:c.St aa ω)(h:∀Q:Unit→Sl→Prop,jd c.b W0 ω (λ_ (_:Unit) (_:Unit)=>True) Q () m'→Sq c.b.P.M c.b.A t Q X ω.s)(w:cP c.b c.W ω rl p Q X)
  (k:∀ω₁,ω₁.m=m'→c.St aa ω₁→Le ω ω₁→cP c.b c.W ω₁ rl p Q X→C () ω₁.s):Sq c.b.P.M c.b.A t C X ω.s:=
 h C λω₁ e R E pv _=>k ω₁ e (st.ext E R) (E.PB st.bH) (w.at (E.p7 st.wf) R st.lX.ws)
theorem Cx.St.toks(st:c.St aa ω)(tk:Nat):c.St aa (ω.at {ω.s with toks:=tk}):=
 have G:cZ ω.s {ω.s with toks:=tk}:=⟨λ_ _ e=>e,rfl⟩
 st.ext G.ext (G.bH st.bH)
theorem cP.toks{p:K α}(w:cP c.b c.W ω rl p Q X)(st:c.St aa ω)(tk:Nat):cP c.b c.W (ω.at {ω.s with toks:=tk}) rl p Q X:=
 have G:cZ ω.s {ω.s with toks:=tk}:=⟨λ_ _ e=>e,rfl⟩
 w.at (G.ext.p7 st.wf) (G.bH st.bH) st.lX.ws
theorem VR.toks{v:V}{pv:Value}(r:VR ω v pv)(tk:Nat):VR (ω.at {ω.s with toks:=tk}) v pv:=r.bg (cZ.le (ω:=ω) (s':={ω.s with toks:=tk}) ⟨λ_ _ e=>e,rfl⟩)
end
section
variable{c:Cx}{aa:List V}{ω:Wd}{Q:Flow→Sl→Prop}{X:Value→Sl→Prop}
theorem cP.next{sc:Sc}(w:cP c.b c.W ω (Lr c) (λk _=>k (.next aa) sc ω.m) Q X)(st:c.St aa ω):Q .next ω.s:=w.here st.bH ⟨rfl,st.lX⟩
theorem cP.mE{cF:List V}{sc:Sc}{s':Sl}(w:cP c.b c.W ω (Lr c) (λk _=>k (.next cF) sc ω.m) Q X)(st:c.St aa ω)(kp:nJ c.W ω.s s')(F':aX c cF (ω.at s')):Q .next s':=
 w.fin (ω.at s') rfl (st.bH.aaN st.lX kp) (kp.ext F') ⟨rfl,F'⟩
theorem QL{pos:SE}:Ex c (.Pass pos) (λaa sc m k _=>k (.next aa) sc m):= λaa sc ω st Q X w=>wpAny_Pass (w.next st)
theorem aaC{pos:SE}:Ex c (.Continue pos) (λaa sc m k _=>k (.cont aa) sc m):= λaa sc ω st Q X w=>by rw[arm_exec_Continue];exact Sm (Uo (Sx (w.here st.bH ⟨rfl,st.lX⟩)))
theorem G9{pos:SE}:Ex c (.Return none pos) (λaa sc m k _=>k (.ret .none) sc m):= λaa sc ω st Q X w=>wpAny_Return_none (w.here st.bH ⟨_,rfl,rfl⟩)
theorem ae4{pe:Su}{pos:SE}{x:List V→Sc→ai→K V}(h:∀aa,Ev c aa pe (x aa)):Ex c (.Return (some pe) pos) (λaa sc m k kx=>x aa sc m (λv sc m=>k (.ret v) sc m) kx):= λaa sc ω st Q X w=>
 wpAny_Return_some ((h aa sc ω st).jk (f:= λv sc m k _=>k (Fl.ret v) sc m) st w λω₁ v gU pv cj L₁ r₁ w₁=>w₁.here cj.bH ⟨_,rfl,r₁⟩)
noncomputable def E.plain:E→Bool
 |.stuck=>false
 |.comp _ _ _ _=>false
 |.bJ _=>false
 |_=>true
noncomputable def E.known:E→Bool
 |.stuck=>false
 |_=>true
noncomputable def E.CA:E→Bool
 |.stuck=>false
 |.comp _ _ _ _=>false
 |_=>true
structure Gf(pe:Su):Prop where
 any:∀t line env,U9 pe t line env=pure false
 iJ:∀l k p env,W8 [.Tuple l k p] pe env=pure none
 idx:∀o i p env,W8 [.Subscript o i p] pe env=pure none
theorem BA{e:E}{pe:Su}(h:e.CA=true)(t:Option Su)(line:Nat)(env:SY):U9 (ig e pe) t line env=pure false:=by cases e<;>first|exact gg h|rfl
theorem MF{e:E}{pe:Su}(h:e.plain=true):Gf (ig e pe):=by cases e<;>first|exact gg h|exact⟨λ_ _ _=>rfl,λ_ _ _ _=>rfl,λ_ _ _ _=>rfl⟩
theorem aak{e:E}{pe:Su}(h:e.known=true)(o:Su)(a:Sv)(p:SE)(env:SY):(∀line,U9 (ig e pe) (some (.Attribute o a p)) line env=pure false)∧W8 [.Attribute o a p] (ig e pe) env=pure none:=by cases e<;>first|exact gg h|exact⟨λ_=>rfl,rfl⟩
theorem Rb(ok:c.Ok){pe:Su}{pos:SE}{x:List V→Sc→ai→K V}(hs:∀line,U9 pe none line c.env=pure false)(h:∀aa,Ev c aa pe (x aa)):Ex c (.Expr pe pos) (λaa sc m k kx=>x aa sc m (λ_ sc m=>k (.next aa) sc m) kx):= λaa sc ω st Q X w=>by rw[arm_exec_Expr,show interactive c.env=false by unfold interactive;rw[ok.kind];rfl,hs];refine Sm (Uo ?_);rw[aJ Tc];refine Sm (Sx ?_);exact Sm ((h aa sc ω st).jk (f:= λ_ sc m k _=>k (Fl.next aa) sc m) st w λω₁ v gU pv cj L₁ r₁ w₁=>wpAny_dropValue (w₁.next cj))
theorem Ao(ok:c.Ok)(inj:(c.nm.map (·.2)).Nodup){y:Sv}{p:SE}{pe:Su}{i:Nat}{pos:SE}{x:List V→Sc→ai→K V}(hc:Aj c.env.scope.names c.nm (c.nm.map (·.1)) i y=true)(hs:∀line,U9 pe (some (.Name y p)) line c.env=pure false)(h:∀aa,Ev c aa pe (x aa)):
  Ex c (.Assign [.Name y p] pe pos) (λaa sc m k kx=>x aa sc m (λv sc m=>k (.next (aa.set i v)) sc m) kx):= λaa sc ω st Q X w=>by
 obtain⟨h1,h2,h3⟩:=xh hc;exact apL (hs:=hs _) ((h aa sc ω st).jk (f:= λv sc m k _=>k (Fl.next (aa.set i v)) sc m) st w λω₁ v gU pv cj L₁ r₁ w₁=>nu ok.kind h3 h1 h2 inj cj.lX r₁ λs' kp F'=>w₁.mE cj kp F')
theorem iW{t pe:Su}{pos:SE}{env:SY}{M:Vp}{A:S3}{s:Sl}(hw:∀line,U9 pe (some t) line env=pure false)(ht:(WV [t] env).map (·.2)=[assign t env])(hs:W8 [t] pe env=pure none)
  (h:Sq M A (eval pe env) (λv s₁=>Sq M A (assign t env v) (λ_ s₂=>Q .next s₂) X s₁) X s):Sq M A (apJ (.Assign [t] pe pos) env) Q X s:=by
 rw[arm_exec_Assign,ht];refine Sm (Uo ?_);show Sq _ _ (U9 pe (some t) pos.line env>>=_) Q X s;rw[hw];refine Sm (Sx ?_);rw[aJ Tc];refine Sm (Tq h (λv s₁ h₁=> ?_) λ_ _ x=>x);rw[hs];refine Sm (Sx ?_);show Sq _ _ (assign t env v>>= λ_=>pure .next) Q X _
 exact Sm (Tq h₁ (λ_ s₂ h₂=>Sx h₂) λ_ _ x=>x)
theorem K5(ok:c.Ok)(inj:(c.nm.map (·.2)).Nodup){t pe:Su}{ks:List Nat}{pos:SE}{x:List V→Sc→ai→K V}(hc:zZ c.env.scope.names c.nm (c.nm.map (·.1)) (.iJ ks) t=true)(hs:Gf pe)(h:∀aa,Ev c aa pe (x aa)):
  Ex c (.Assign [zX (.iJ ks) t] pe pos) (λaa sc m k kx=>x aa sc m (λv sc m=>gp (nA (.iJ ks) v aa m) (λenv sc=>k (.next env) sc m) sc) kx):= λaa sc ω st Q X w=>
 iW (hs.any _ · _) rfl (hs.iJ _ _ _ _) ((h aa sc ω st).jk st w λω₁ v gU pv cj L₁ r₁ w₁=>by
  obtain⟨cF,fz,hb,w₂⟩:=w₁.gp (g:= λenv sc k _=>k (Fl.next env) sc ω₁.m)
  exact rL ok.b.hd ok.kind hc inj cj.bH cj.lX r₁ hb λs' kp F'=>w₂.mE cj kp F')
theorem Hf(ok:c.Ok){po pe:Su}{a:At}{apos pos:SE}{xo x:List V→Sc→ai→K V}(ha:a.ok=true)(hs:(∀line,U9 pe (some (.Attribute po a.str apos)) line c.env=pure false)∧W8 [.Attribute po a.str apos] pe c.env=pure none)(ho:∀aa,Ev c aa po (xo aa))(h:∀aa,Ev c aa pe (x aa)):
  Ex c (.Assign [.Attribute po a.str apos] pe pos) (λaa sc m k kx=>x aa sc m (λv sc m=>xo aa sc m (λp sc m=>gx a p v m sc λsc m=>k (.next aa) sc m) kx) kx):= λaa sc ω st Q X w=>
 iW hs.1 rfl hs.2 ((h aa sc ω st).jk st w λω₁ v gU pv cj L₁ r₁ w₁=>by
  rw[arm_assign_Attribute];refine Sm (To ((ho aa gU ω₁ cj).jk cj w₁ λω₂ p wH pp qO L₂ r₂ w₂=> ?_));obtain⟨_,m',fz,e,w₃⟩:=w₂.out (p:= λk=>gx a p v ω₂.m wH λsc m=>k () sc m) (g:= λ_ sc m k _=>k (Fl.next aa) sc m) λk=>vf
  refine Sm (Uo (Sm (To (HS qO (λQ hQ=>vp ok.b.fb ok.b.cf ha qO.bH r₂ (r₁.bg L₂) e hQ) w₃ λω₃ em IW L₃ w₄=> ?_))));subst em;exact apN (w₄.next IW))
theorem KG(ok:c.Ok){po pi pe:Su}{ajv pos:SE}{xo xi x:List V→Sc→ai→K V}(hs:Gf pe)(ho:∀aa,Ev c aa po (xo aa))(hi:∀aa,Ev c aa pi (xi aa))(h:∀aa,Ev c aa pe (x aa)):
  Ex c (.Assign [.Subscript po pi ajv] pe pos) (λaa sc m k kx=>x aa sc m (λv sc m=>xo aa sc m (λp sc m=>xi aa sc m (λj sc m=>gv p j v m sc λsc m=>k (.next aa) sc m) kx) kx) kx):= λaa sc ω st Q X w=>
 iW (hs.any _ · _) rfl (hs.idx _ _ _ _) ((h aa sc ω st).jk st w λω₁ v gU pv cj L₁ r₁ w₁=>by
  rw[arm_assign_Subscript];refine Sm (To ((ho aa gU ω₁ cj).jk cj w₁ λω₂ p wH pp qO L₂ r₂ w₂=> ?_));refine Sm (To ((hi aa wH ω₂ qO).jk qO w₂ λω₃ j sc₃ pj IW L₃ r₃ w₃=> ?_));obtain⟨_,m',fz,e,w₄⟩:=w₃.out (p:= λk=>gv p j v ω₃.m sc₃ λsc m=>k () sc m) (g:= λ_ sc m k _=>k (Fl.next aa) sc m) λk=>vd
  refine Sm (Uo (Sm (To (HS IW (λQ hQ=>vC IW.bH (r₂.bg L₃) r₃ ((r₁.bg L₂).bg L₃) e hQ) w₄ λω₄ em Q4 L₄ w₅=> ?_))));subst em;exact apN (w₅.next Q4))
theorem af4{pt:Su}{pb po:List S1}{pos:SE}{x:List V→Sc→ai→K V}{xb xo:List V→Sc→ai→K Fl}(ht:∀aa,Tr c aa pt (dS (x aa)))(hb:Ls c pb xb)(ho:Ls c po xo):
  Ex c (.If pt pb po pos) (λaa sc m k kx=>x aa sc m (λv sc m=>ask An.qi (cT.truthy v m) sc λb sc=>two b (xb aa sc m k kx) (xo aa sc m k kx)) kx):= λaa sc ω st Q X w=>
 wpAny_If ((ht aa sc ω st).jk (f:= λb sc m k kx=>two b (xb aa sc m k kx) (xo aa sc m k kx)) st w λω₁ b gU pb cj L₁ r₁ w₁=>by
  subst r₁;cases pb
  ·exact ho aa gU ω₁ cj Q X w₁
  ·exact hb aa gU ω₁ cj Q X w₁)
theorem HT:Ls c [] (λaa sc m k _=>k (.next aa) sc m):= λaa sc ω st Q X w=>W9 (w.next st)
def aga(y:List V→Sc→ai→K Fl)(k:KF)(kx:KX)(f:Fl)(sc:Sc)(m:ai):Prop:=match f with
 |.next env=>y env sc m k kx
 |.cont env=>k (.cont env) sc m
 |.ret v=>k (.ret v) sc m
theorem Dc{p:S1}{l:List S1}{x y:List V→Sc→ai→K Fl}(h:Ex c p x)(hl:Ls c l y):Ls c (p::l) (λaa sc m k kx=>x aa sc m (aga y k kx) kx):= λaa sc ω st Q X w=>
 apO ((h aa sc ω st).bind (f:= λf sc m k kx=>aga y k kx f sc m) w st.lX.ws λω₁ f gU pf R E r w₁=>by
  have zD:=st.zD.ext E;cases f with
  |next cF=>obtain⟨rfl,F⟩:=r;exact hl _ _ _ ⟨R,F,zD⟩ Q X w₁
  |cont cF=>obtain⟨rfl,F⟩:=r;exact w₁.here R ⟨rfl,F⟩
  |ret v=>obtain⟨pv,rfl,r⟩:=r;exact w₁.here R ⟨pv,rfl,r⟩)
noncomputable def Op.rQ:Op→Bool
 |.add|.sub=>true
 |_=>false
theorem qd{op:Op}{a b r:V}{pa pb:Value}{Q:Value→Sl→Prop}(hop:op.rQ=true)(ha:VR ω a pa)(hb:VR ω b pb)(e:op.rJ a b=some r)(hQ:∀tk pv,VR ω r pv→Q pv {ω.s with toks:=tk}):Sq c.b.P.M c.b.A (inplaceOp (nN op) pa pb) Q X ω.s:=by
 refine aD e λi e1 e=>aD e λj e2 e=>dm e λk e3 er=> ?_;obtain⟨t,rfl⟩:=ha.int e1;obtain⟨u,rfl⟩:=hb.int e2;subst er;cases op with
 |add=>cases SN e3;exact PySem.P.iadd_int (hQ _ _ ⟨_,rfl⟩)
 |sub=>cases SN e3;exact PySem.P.isub_int (hQ _ _ ⟨_,rfl⟩)
 |_=>exact gg hop
theorem ado(ok:c.Ok)(inj:(c.nm.map (·.2)).Nodup){op:Op}{y:Sv}{p:SE}{pe:Su}{i:Nat}{pos:SE}{x:List V→Sc→ai→K V}(hop:op.rQ=true)(hc:Aj c.env.scope.names c.nm (c.nm.map (·.1)) i y=true)(hy:fX y=true)(h:∀aa,Ev c aa pe (x aa)):
  Ex c (.AugAssign (.Name y p) (nN op) pe pos) (λaa sc m k kx=>gp (fj aa i) (λold sc=>x aa sc m (λv sc m=>ask An.qo (op.rJ old v) sc λnew sc=>k (.next (aa.set i new)) sc m) kx) sc):= λaa sc ω st Q X w=>by
 obtain⟨h1,h2,h3⟩:=xh hc;obtain⟨u,fz,hu,w⟩:=w.gp (g:= λold sc k kx=>x aa sc ω.m (λv sc m=>ask An.qo (op.rJ old v) sc λnew sc=>k (Fl.next (aa.set i new)) sc m) kx)
 refine wpAny_AugAssign_Name (Eg ok hy h1 (by rcases h3 with h3|h3<;>rw[h3]<;>rfl) st hu λpu ru=> ?_)
 refine(h aa fz ω st).jk (f:= λv sc m k _=>ask An.qo (op.rJ u v) sc λnew sc=>k (Fl.next (aa.set i new)) sc m) st w λω₁ v gU pv cj L₁ r₁ w₁=> ?_
 obtain⟨r,wH,e,w₂⟩:=w₁.ask (g:= λnew sc k _=>k (Fl.next (aa.set i new)) sc ω₁.m)
 exact qd hop (ru.bg L₁) r₁ e λtk pr rr=>nu ok.kind h3 h1 h2 inj (cj.toks tk).lX (rr.toks tk) λs' kp F'=>(w₂.toks cj tk).mE (cj.toks tk) kp F'
theorem FO(ok:c.Ok){op:Op}{po pe:Su}{a:At}{apos pos:SE}{xo x:List V→Sc→ai→K V}(ha:a.ok=true)(hop:op.rQ=true)(ho:∀aa,Ev c aa po (xo aa))(h:∀aa,Ev c aa pe (x aa)):
  Ex c (.AugAssign (.Attribute po a.str apos) (nN op) pe pos) (λaa sc m k kx=>xo aa sc m (λp sc m=>ask An.qo (uY a p m) sc λold sc=>x aa sc m (λv sc m=>ask An.qo (op.rJ old v) sc λnew sc=>gx a p new m sc λsc m=>k (.next aa) sc m) kx) kx):= λaa sc ω st Q X w=>
 wpAny_AugAssign_AttributeAny ((ho aa sc ω st).jk (f:= λp sc m k kx=>ask An.qo (uY a p m) sc λold sc=>x aa sc m (λv sc m=>ask An.qo (op.rJ old v) sc λnew sc=>gx a p new m sc λsc m=>k (Fl.next aa) sc m) kx) st w λω₁ p gU pp cj L₁ r₁ w₁=>by
  obtain⟨u,wH,e,w₂⟩:=w₁.ask (g:= λold sc k kx=>x aa sc ω₁.m (λv sc m=>ask An.qo (op.rJ old v) sc λnew sc=>gx a p new m sc λsc m=>k (Fl.next aa) sc m) kx)
  refine EX ok.b.fb ok.b.cf ha cj.bH r₁ e λtk pu ru=> ?_;refine(h aa wH _ (cj.toks tk)).jk (f:= λv sc m k _=>ask An.qo (op.rJ u v) sc λnew sc=>gx a p new m sc λsc m=>k (Fl.next aa) sc m) (cj.toks tk) (w₂.toks cj tk) λω₃ v sc₃ pv IW L₃ r₃ w₃=> ?_
  obtain⟨r,sc₄,e₃,w₄⟩:=w₃.ask (g:= λnew sc k _=>gx a p new ω₃.m sc λsc m=>k (Fl.next aa) sc m)
  obtain⟨_,m',fz,e₄,w₅⟩:=w₄.out (p:= λk=>gx a p r ω₃.m sc₄ λsc m=>k () sc m) (g:= λ_ sc m k _=>k (Fl.next aa) sc m) λk=>vf
  refine qd hop ((ru.toks tk).bg L₃) r₃ e₃ λCV pr rr=> ?_;refine HS (IW.toks CV) (λQ hQ=>vp ok.b.fb ok.b.cf ha (IW.toks CV).bH (((r₁.toks tk).bg L₃).toks CV) (rr.toks CV) e₄ hQ) (w₅.toks IW CV) λω₄ em Q4 L₄ w₆=> ?_;subst em;exact w₆.next Q4)
end
end
section
mutual
noncomputable def V.bM(f:Nat→Nat):V→V
 |.ref a=> .ref (f a)
 |.bJ l=> .bJ (V.fW f l)
 |.af=> .af
 |.none=> .none
 |.bool b=> .bool b
 |.int i=> .int i
 |.str k=> .str k
 |.bytes b=> .bytes b
 |.range a b=> .range a b
noncomputable def V.fW(f:Nat→Nat):List V→List V
 |[]=>[]
 |v::l=>V.bM f v::V.fW f l
end
noncomputable def O.bM(f:Nat→Nat):O→O
 |.list l=> .list (V.fW f l)
 |.bare l=> .bare (V.fW f l)
 |.dict k es=> .dict k (es.map λe=>(e.1,e.2.bM f))
 |.inst c fs=> .inst c (fs.map λe=>(e.1,e.2.bM f))
 |.aM=> .aM
theorem O.i0(f:Nat→Nat)(o:O):(o.bM f).live=o.live:=by cases o<;>rfl
theorem V.Om(f:Nat→Nat)(l:List V):(V.fW f l).length=l.length:=by
 induction l with
 |nil=>rfl
 |cons v l ih=>exact bk UE ih
noncomputable def Wd.pn(ω:Wd)(f:Nat→Nat)(ms:ai):Wd:=⟨⟨λa=>ω.σ.r (f a),λa=>ω.σ.d (f a)⟩,ms,ω.s⟩
section
variable{ω:Wd}{f:Nat→Nat}{ms:ai}{P:PF}{B:Base}
abbrev Ka(f:Nat→Nat)(ms M:ai):Prop:= ∀a,f a<M.length↔a<ms.length
mutual
theorem VR.bM(lt:Ka f ms ω.m):∀{v:V} {pv:Value},VR ω (v.bM f) pv↔VR (ω.pn f ms) v pv
 |.af,_=>Uw
 |.none,_=>Uw
 |.bool _,_=>Uw
 |.int _,_=>Uw
 |.str _,_=>Uw
 |.bytes _,_=>Uw
 |.bJ _,_=>exists_congr λ_=>exists_congr λ_=>and_congr_right λ_=>and_congr_right λ_=>eF.bM lt
 |.range _ _,_=>Uw
 |.ref a,_=>and_congr_left λ_=>lt a
theorem eF.bM(lt:Ka f ms ω.m):∀{l:List V} {ps:List Value},eF ω (V.fW f l) ps↔eF (ω.pn f ms) l ps
 |[],_=>Uw
 |_::_,[]=>Uw
 |_::_,_::_=>and_congr (VR.bM lt) (eF.bM lt)
end
theorem m6.bM(lt:Ka f ms ω.m){T:Type}{dec:T→V→Prop}{es:List (V×V)}:∀{ps:List (T×Value)},m6 ω dec (es.map λe=>(e.1,e.2.bM f)) ps↔m6 (ω.pn f ms) dec es ps:=by
 induction es with
 |nil=>exact Uw
 |cons e es ih=>exactλ{ps}=>match ps with
  |[]=>Uw
  |_::_=>and_congr_right λ_=>and_congr (VR.bM lt) ih
theorem nK.bM(lt:Ka f ms ω.m){x:At}{px:Option Value}{fs:List (At×V)}:nK ω ((fs.map λe=>(e.1,e.2.bM f)).lookup x) px↔nK (ω.pn f ms) (fs.lookup x) px:=by
 induction fs with
 |nil=>exact Uw
 |cons e fs ih=>
  show nK ω (UB x ((e.1,e.2.bM f)::fs.map λe=>(e.1,e.2.bM f))) px↔nK (ω.pn f ms) (UB x ((e.1,e.2)::fs)) px;rw[Tj,Tj];cases x==e.1 with
  |true=>exact exists_congr λ_=>and_congr_right λ_=>VR.bM lt
  |false=>exact ih
theorem ko.bM(lt:Ka f ms ω.m){a:Nat}{o:O}:ko P ω (f a) (o.bM f)↔ko P (ω.pn f ms) a o:=by
 have hl:∀l:List V,(V.fW f l).length≤ay↔l.length≤ay:= λl=>by rw[V.Om]
 cases o with
 |list l=>exact and_congr_right λ_=>and_congr (exists_congr λ_=>and_congr_right λ_=>eF.bM lt) (hl l)
 |bare l=>exact and_congr_right λ_=>and_congr (exists_congr λ_=>and_congr_right λ_=>eF.bM lt) (and_congr_left λ_=>hl l)
 |dict k es=>exact and_congr_right λ_=>and_congr (exists_congr λ_=>and_congr_right λ_=>m6.bM lt) (by rw[Sy])
 |inst c fs=>
  refine and_congr_right λ_=>and_congr (exists_congr λ_=>exists_congr λ_=>⟨λh=>⟨h.get,h.keys,?_,λx hx=>(nK.bM lt).mp (h.val x hx)⟩,λh=>⟨h.get,h.keys,?_,λx hx=>(nK.bM lt).mpr (h.val x hx)⟩⟩) (by rw[Sy])
  ·exact SG h.size (Te (Sy ..))
  ·exact SG h.size (Te (Sy ..).symm)
 |aM=>exact Uw
end
structure Em(f:Nat→Nat)(ms M:ai):Prop where
 lo:∀a,a<ms.length→f a<M.length
 hi:∀a,ms.length≤a→f a=M.length+(a-ms.length)
 get:∀a o,ms.get a=some o→o.live=true→M.get (f a)=some (o.bM f)
 inj:∀a b,ms.live a=true→ms.live b=true→f a=f b→a=b
section
variable{f:Nat→Nat}{ms M dW M':ai}
theorem Em.Ey(E:Em f ms M):Ka f ms M:= λa=>⟨λh=>aoR λc=>by rw[E.hi a c] at h;exact absurd h (TL.mpr (SV _ _)),E.lo a⟩
theorem Em.live(E:Em f ms M){a:Nat}(h:ms.live a=true):M.live (f a)=true:=by obtain⟨o,e,l⟩:=ai.iu h;exact ai.dg (E.get a o e l) ((O.i0 f o).trans l)
end
section
variable{P:PF}{B:Base}{ω ω₀':Wd}{f:Nat→Nat}{ms dW M':ai}{W:So→Prop}{b:Bx}
theorem ez.pn(E:Em f ms ω.m){x:So}(h:ez (ω.pn f ms) x):ez ω x:=let⟨a,ha,hx⟩:=h;⟨f a,E.live ha,hx⟩
theorem bY.pn(R:bY P B ω)(E:Em f ms ω.m):bY P B (ω.pn f ms) where
 base:=R.base
 obj a o e:=by
  by_cases h:o.live=true
  ·exact(ko.bM E.Ey).mp (R.obj _ _ (E.get a o e h))
  ·cases o<;>first|exact absurd rfl h|trivial
 apart a b ha hb hab:=R.apart _ _ (E.live ha) (E.live hb) λz=>hab (E.inj a b ha hb z)
 fresh a ha:=R.fresh _ (E.live ha)
theorem yy.pn(S:yy b ω)(E:Em f ms ω.m):yy b (ω.pn f ms):= λe he=>
 let⟨k,L,hf,ho,hn,hb⟩:=S e he
 ⟨k,L,hf,ho,λz=>hn (z.pn E),hb⟩
structure Mv(n:Nat)(mu:Nat→Nat)(aa:List V)(m:ai)(cF:List V)(m':ai):Prop where
 em:Em mu m' m
 old:∀a,a<n→mu a=a
 len:n≤m'.length
 lv:∀a,a<n→m.live a=true→m'.live a=true
 new:∀a,n≤a→a<m'.length→n≤mu a
 env:∀k v,fj cF k=some v→fj aa k=some (v.bM mu)
variable{n:Nat}{mu:Nat→Nat}{aa cF:List V}{m':ai}{ω₀:Wd}{c:Cx}
theorem Mv.ext(g:Mv ω₀.n mu aa ω.m cF m')(X:fZ W ω₀ ω):fZ W ω₀ (ω.pn mu m') where
 len:=g.len
 live a ha:=by
  refine .trans ?_ (X.live a ha);cases q:ω.m.live a with
  |true=>exact g.lv a ha q
  |false=>
   cases q':m'.live a with
   |false=>exact q'
   |true=>have:=g.em.live q';rw[g.old a ha,q] at this;exact gg this
 loc a ha:=by show ω.σ.r (mu a)=_∧ω.σ.d (mu a)=_;rw[g.old a ha];exact X.loc a ha
 keep:=X.keep
 soft:=X.soft
 new a h1 h2:=X.new _ (g.new a h1 h2) (g.em.lo a h2)
 cls:=X.cls
 rest:=X.rest
theorem aX.pn(F:aX c aa ω)(E:Em f ms ω.m)(h:∀k v,fj cF k=some v→fj aa k=some (v.bM f)):aX c cF (ω.pn f ms):=by
 refine⟨?_,λx hx=> ?_,⟨λz=>F.off.1 (z.pn E),F.off.2⟩,λx a e=> ?_,F.u0⟩
 ·obtain⟨mm,hm,hv⟩:=F.ns
  refine⟨mm,hm,λx k v h1 h2 h3=> ?_⟩;obtain⟨pv,e,r⟩:=hv x k _ h1 h2 (h k v h3);exact⟨pv,e,(VR.bM E.Ey).mp r⟩
 ·obtain⟨a,ov,e,hc,hv⟩:=F.cell x hx
  refine⟨a,ov,e,hc,λk v h1 h2=> ?_⟩;obtain⟨pv,e,r⟩:=hv k _ h1 (h k v h2);exact⟨pv,e,(VR.bM E.Ey).mp r⟩
 ·obtain⟨p1,p2,p3,p4⟩:=F.dP x a e
  exact⟨λz=>p1 (z.pn E),p2,p3,p4⟩
theorem Mv.st(g:Mv n mu aa ω.m cF m')(S:c.St aa ω):c.St cF (ω.pn mu m'):=⟨S.bH.pn g.em,S.lX.pn g.em g.env,S.zD.pn g.em⟩
def Jc(n:Nat)(v:V)(bD:List V)(J:List V→List V→Sc→ai→Prop)(l aa:List V)(sc:Sc)(m:ai):Prop:=
 ∃mu cF m',Mv n mu aa m cF m'∧v.bM mu=v∧aO v m'=some bD∧J l cF sc m'
end
end
section
section
variable{c:Cx}{aa:List V}{ω:Wd}{Q:Flow→Sl→Prop}{X:Value→Sl→Prop}
theorem yJ{e:E}{pe:Su}(h:e.known=true)(ov iv new:Value):augStore (ig e pe) ov iv new=(do US [new,ov,iv] (WG ov iv new);release [new,ov,iv] [];pure .next):=by cases e<;>first|rfl|exact gg h
theorem J7(ok:c.Ok){op:Op}{po pi pe:Su}{apos pos:SE}{xo xi x:List V→Sc→ai→K V}(hop:op.rQ=true)(hs:∀ov iv new,augStore pi ov iv new=(do US [new,ov,iv] (WG ov iv new);release [new,ov,iv] [];pure .next))(ho:∀aa,Ev c aa po (xo aa))(hi:∀aa,Ev c aa pi (xi aa))(h:∀aa,Ev c aa pe (x aa)):
  Ex c (.AugAssign (.Subscript po pi apos) (nN op) pe pos) (λaa sc m k kx=>xo aa sc m (λp sc m=>xi aa sc m (λj sc m=>ask An.qo (item p j m) sc λold sc=>x aa sc m (λv sc m=>ask An.qo (op.rJ old v) sc λnew sc=>gv p j new m sc λsc m=>k (.next aa) sc m) kx) kx) kx):= λaa sc ω st Q X w=>
 wpAny_AugAssign_Subscript_any (ha:=hs) ((ho aa sc ω st).jk st w λω₀ p sc₀ pp Lx L₀ r₀ w₀=>(hi aa sc₀ ω₀ Lx).jk (f:= λj sc m k kx=>ask An.qo (item p j m) sc λold sc=>x aa sc m (λv sc m=>ask An.qo (op.rJ old v) sc λnew sc=>gv p j new m sc λsc m=>k (Fl.next aa) sc m) kx) Lx w₀ λω₁ j gU pj cj L₁ r₁ w₁=>by
  obtain⟨u,wH,e,w₂⟩:=w₁.ask (g:= λold sc k kx=>x aa sc ω₁.m (λv sc m=>ask An.qo (op.rJ old v) sc λnew sc=>gv p j new m sc λsc m=>k (Fl.next aa) sc m) kx)
  have rp:=r₀.bg L₁;refine(vj cj.bH rp r₁ e λtk pu ru=> ?_).2;refine(h aa wH _ (cj.toks tk)).jk (f:= λv sc m k _=>ask An.qo (op.rJ u v) sc λnew sc=>gv p j new m sc λsc m=>k (Fl.next aa) sc m) (cj.toks tk) (w₂.toks cj tk) λω₃ v sc₃ pv IW L₃ r₃ w₃=> ?_
  obtain⟨r,sc₄,e₃,w₄⟩:=w₃.ask (g:= λnew sc k _=>gv p j new ω₃.m sc λsc m=>k (Fl.next aa) sc m)
  obtain⟨_,m',fz,e₄,w₅⟩:=w₄.out (p:= λk=>gv p j r ω₃.m sc₄ λsc m=>k () sc m) (g:= λ_ sc m k _=>k (Fl.next aa) sc m) λk=>vd
  refine qd hop ((ru.toks tk).bg L₃) r₃ e₃ λCV pr rr=> ?_;refine HS (IW.toks CV) (λQ hQ=>vC (IW.toks CV).bH (((rp.toks tk).bg L₃).toks CV) (((r₁.toks tk).bg L₃).toks CV) (rr.toks CV) e₄ hQ) (w₅.toks IW CV) λω₄ em Q4 L₄ w₆=> ?_;subst em;exact w₆.next Q4)
end
theorem aX.BN{c:Cx}{aa:List V}{ω:Wd}(F:aX c aa ω)(ks:List Nat):aX c (cC ks aa) ω:=by
 refine⟨?_,λx hx=> ?_,F.off,F.dP,F.u0⟩
 ·obtain⟨mm,h1,h2⟩:=F.ns
  exact⟨mm,h1,λx k v a b d=>h2 x k v a b (tP ks d).2⟩
 ·obtain⟨a,ov,h1,h2,h3⟩:=F.cell x hx
  exact⟨a,ov,h1,h2,λk v b d=>h3 k v b (tP ks d).2⟩
theorem E4{prog:Xk}{w:Tu}{A:S3}{R:U4→Sl→Prop}{s:Sl}{target:Su}{it:Value}{body orelse:List S1}{env:SY}(I:Nat→Sl→Prop)
  (turn:∀n s,I n s→∀X,Sq (model prog w) A (Uk it) (λr s₁=>match r with
   |none=>Sq (model prog w) A (XW orelse env) (λf s₃=>R (.ok f) s₃) X s₁
   |some v=>Sq (model prog w) A (WQ target it v) (λ_ s₁=>Sq (model prog w) A (assign target env v) (λ_ s₂=>Sq (model prog w) A (XW body env) (λf s₃=>match f with
     |.next|.cont=> ∃m,m<n∧I m s₃
     |.brk=>R (.ok .next) s₃
     |.ret v=>R (.ok (.ret v)) s₃) X s₂) X s₁) X s₁) X s)
  (n:Nat) (h:I n s):UP (model prog w) A (.forLoop target it body orelse env) R s:=by
 refine codeAny_loop' rfl I (λn s hI=> ?_) n h;show Sq _ _ ((forTurn target it body orelse env).onRaise (λx=>do W3 x env;apt x)) _ _ s
 refine wpAny_noted ?_;simp only[forTurn];refine Sm (Uo (Sm (apG (Tq (turn n s hI _) (λr s₁ h₁=> ?_) λ_ _ h'=>Uo h'))));cases r with
 |none=>exact Sx (.inr ⟨rfl,codeAny_block h₁⟩)
 |some v=>
  refine Sm (Tq h₁ (λ_ s₁ h₁=> ?_) λ_ _ h'=>h');refine Sm (Tq h₁ (λ_ s₂ h₂=>Sm (Tq h₂ (λf s₃ h₃=> ?_) λ_ _ h'=>h')) λ_ _ h'=>h');cases f with
  |next=>exact Sx (.inl ⟨rfl,h₃⟩)
  |cont=>exact Sx (.inl ⟨rfl,h₃⟩)
  |brk=>exact Sx h₃
  |ret v=>exact Sx h₃
structure Fp where
 c:Cx
 ω₀:Wd
 I:So
 v:V
 pv:Value
 bD:List V
structure Fp.Ok(p:Fp):Prop where
 bI:p.c.b.B p.I=none
 fI:p.ω₀.h.get? p.I=none
 S₀:WS p.c.W p.ω₀.h
structure Fp.St(p:Fp)(i:Nat)(aa:List V)(ω:Wd):Prop where
 st:p.c.St aa ω
 ext:fZ p.c.W p.ω₀ ω
 it:lH ω p.v p.pv p.bD p.I i
 nf:¬ez ω p.I
 nw:¬p.c.W p.I
section
variable{p:Fp}{i:Nat}{aa cF:List V}{ω ω':Wd}{s':Sl}
theorem yy.CL{b:Bx}{I:So}{oI:SK}{vs:Array Value}(S:yy b ω)(k:Tn I ω.h s'.heap)(hI:ω.h.get? I=some oI)(hd:oI.data=.fields vs):yy b (ω.at s'):= λe he=>by obtain⟨k1,La,hf,⟨o,ho,⟨es,ep,hs⟩,hc⟩,hn,hb⟩:=S e he;exact⟨k1,La,hf,⟨o,k La o (λz=>nomatch hs.symm.trans ((bk Zd (SN (ho.symm.trans (z▸hI)))).trans hd)) ho,⟨es,ep,hs⟩,hc⟩,hn,hb⟩
theorem Fp.St.CL(F:p.Ok)(S:p.St i aa ω)(k:Tn p.I ω.h s'.heap)(hr:lR ω.s s'):p.c.St aa (ω.at s')∧fZ p.c.W p.ω₀ (ω.at s'):=by obtain⟨oI,RZ,T,vs,hc,hd,hT⟩:=S.it.it.obj;exact⟨⟨S.it.bH S.st.bH F.bI k,S.st.lX.keep (S.it.le k) (λ_ _ _ f=>f) λb o _ e _ nf=>⟨o,k b o (λz=>by subst z;cases RZ.symm.trans e;exact nf vs hd) e,rfl⟩,S.st.zD.CL k RZ hd⟩,S.ext.abT k F.fI hr F.S₀⟩
theorem Fp.St.next(F:p.Ok)(S:p.St i aa ω)(k:Tn p.I ω.h s'.heap)(hr:lR ω.s s'){j:Nat}(it:lH (ω.at s') p.v p.pv p.bD p.I j):p.St j aa (ω.at s'):=
 have a:=S.CL F k hr
 ⟨a.1,a.2,it,S.nf,S.nw⟩
theorem Fp.St.mE(F:p.Ok)(S:p.St i aa ω)(kp:nJ p.c.W ω.s s')(F':aX p.c cF (ω.at s')):p.St i cF (ω.at s'):=
 ⟨⟨S.st.bH.aaN S.st.lX kp,F',S.st.zD.ext (kp.ext F')⟩,S.ext.trans S.st.bH F.S₀ (kp.ext F'),S.it.keep (S.st.lX.le kp) S.it.items λo e=>kp.keep _ o e S.nw,S.nf,S.nw⟩
theorem Fp.St.step(F:p.Ok)(S:p.St i aa ω)(X:fZ p.c.W ω ω')(R':p.c.b.bY ω')(F':aX p.c cF ω')(e:aO p.v ω'.m=some p.bD):p.St i cF ω':=by obtain⟨oI,RZ,q⟩:=S.it.it.obj;refine⟨⟨R',F',S.st.zD.ext X⟩,S.ext.trans S.st.bH F.S₀ X,S.it.keep (X.le S.st.bH S.st.lX.ws) e λo eo=> ?_,λf=>S.nf (X.JU RZ f),S.nw⟩;cases RZ.symm.trans eo;obtain⟨o',e',s'⟩:=X.keep _ _ RZ S.nf S.nw;rw[e',q.yq s']
theorem Fp.St.gc{mu:Nat→Nat}{m':ai}(S:p.St i aa ω)(g:Mv p.ω₀.n mu aa ω.m cF m')(hv:p.v.bM mu=p.v)(hm:aO p.v m'=some p.bD):p.St i cF (ω.pn mu m'):=
 ⟨g.st S.st,g.ext S.ext,⟨(VR.bM g.em.Ey).mp (hv.symm▸S.it.val),hm,S.it.it.keep (λa e=>by rw[e] at hv;show ω.σ.r (mu a)=_;rw[V.ref.inj hv]) λo e=>e⟩,λz=>S.nf (z.pn g.em),S.nw⟩
end
def jK(t:nO)(body:List V→Sc→ai→KF→Prop)(v:V)(bD:List V)(bf:List Nat)(J:List V→List V→Sc→ai→Prop)(k:V→Sc→ai→Prop)(x:V)(l env:List V)(m:ai)(sc:Sc):Prop:=gp (nA t x env m) (λab8 sc=>body ab8 sc m λf sc m₁=>match f with
 |.ret x=>k x sc m₁
 |.next e=>guard (aO v m₁=some bD) sc λsc=>J l (cC bf e) sc m₁
 |.cont e=>guard (aO v m₁=some bD) sc λsc=>J l (cC bf e) sc m₁) sc
def vg(c:Cx)(t:nO)(target:Su)(pb:List S1)(ω:Wd)(pv:Value)(Q:Fl→ai→Prop):Prop:= ∀(R:U4→Sl→Prop) (X:Value→Sl→Prop),(∀f m',Q f m'→jd c.b c.W ω (Lr c) (λf s'=>R (.ok f) s') f m')→
 Sq c.b.P.M c.b.A (XN pv) (λit s₂=>UP c.b.P.M c.b.A (.forLoop (zX t target) it pb [] c.env) R s₂) X ω.s
theorem vg.bg{c:Cx}{t:nO}{target:Su}{pb:List S1}{ω:Wd}{pv:Value}{Q Q':Fl→ai→Prop}(h:vg c t target pb ω pv Q)(k:∀f m,Q f m→Q' f m):vg c t target pb ω pv Q':= λR X hR=>h R X λf m q=>hR f m (k f m q)
structure Fr where
 p:Fp
 t:nO
 body:List V→Sc→ai→KF→Prop
 bf:List Nat
 J:List V→List V→Sc→ai→Prop
 K:List V→List V→Sc→ai→Prop
 ret:V→Sc→ai→Prop
 Q:Fl→ai→Prop
structure Fr.Ok(r:Fr)(target:Su)(pb:List S1):Prop where
 p:r.p.Ok
 ok:r.p.c.Ok
 inj:(r.p.c.nm.map (·.2)).Nodup
 tgt:zZ r.p.c.env.scope.names r.p.c.nm (r.p.c.nm.map (·.1)) r.t target=true
 body:Ls r.p.c pb (λenv sc m k _=>r.body env sc m k)
 J:∀x l env sc m,r.J (x::l) env sc m→∃sc,jK r.t r.body r.p.v r.p.bD r.bf r.K r.ret x l env m sc
 K:∀l env sc m,r.K l env sc m→r.J l env sc m∨Jc r.p.ω₀.n r.p.v r.p.bD r.J l env sc m
 ret:∀x sc m,r.ret x sc m→r.Q (.ret x) m
 fin:∀env sc m,r.J [] env sc m→r.Q (.next (cC r.bf env)) m
section
variable{r:Fr}{target:Su}{pb:List S1}{i:Nat}{x:V}{l aa:List V}{ω:Wd}{s:Sl}{sc:Sc}{X:Value→Sl→Prop}
def Fr.cV(r:Fr)(n:Nat)(s:Sl):Prop:= ∃i aa ω sc,s=ω.s∧r.p.St i aa ω∧r.J (r.p.bD.drop i) aa sc ω.m∧n=r.p.bD.length+1-i∧i≤r.p.bD.length
theorem Fr.Ok.inv(o:r.Ok target pb)(hi:i<r.p.bD.length)(S:r.p.St (i+1) aa ω)(h:r.K (r.p.bD.drop (i+1)) aa sc ω.m):∃m,m<r.p.bD.length+1-i∧r.cV m ω.s:=by
 refine⟨_,XR (Wf hi) (T3 i),?_⟩;rcases o.K _ _ _ _ h with h|⟨mu,cF,m',g,hv,hm,h⟩
 ·exact⟨i+1,aa,ω,sc,rfl,S,h,rfl,hi⟩
 ·exact⟨i+1,cF,ω.pn mu m',sc,rfl,S.gc g hv hm,h,rfl,hi⟩
theorem Fr.Ok.turn(o:r.Ok target pb){R:U4→Sl→Prop}(hR:∀f m',r.Q f m'→jd r.p.c.b r.p.c.W r.p.ω₀ (Lr r.p.c) (λf s'=>R (.ok f) s') f m')(hi:i<r.p.bD.length)(hx:r.p.bD[i]? =some x)(S:r.p.St i aa ω)(h:jK r.t r.body r.p.v r.p.bD r.bf r.K r.ret x (r.p.bD.drop (i+1)) aa ω.m sc){G:Sl→Prop}:
  Sq r.p.c.b.P.M r.p.c.b.A (Uk (.ref r.p.I)) (λq s₁=>match q with
   |none=>G s₁
   |some v=>Sq r.p.c.b.P.M r.p.c.b.A (WQ (zX r.t target) (.ref r.p.I) v) (λ_ s₁=>Sq r.p.c.b.P.M r.p.c.b.A (assign (zX r.t target) r.p.c.env v) (λ_ s₂=>Sq r.p.c.b.P.M r.p.c.b.A (XW pb r.p.c.env) (λf s₃=>match f with
     |.next|.cont=> ∃m,m<r.p.bD.length+1-i∧r.cV m s₃
     |.brk=>R (.ok .next) s₃
     |.ret v=>R (.ok (.ret v)) s₃) X s₂) X s₁) X s₁) X ω.s:=
 Cn S.st.bH S.it hx λh₁ tk₁ px EM it₁ r₁=>by
  obtain⟨cF,gU,hb,h⟩:=eK h;have S₁:=S.next o.p (s':={ω.s with heap:=h₁,toks:=tk₁}) EM rfl it₁
  refine DH (b:=r.p.c.b) it₁.it ?_;refine rL o.ok.b.hd o.ok.kind o.tgt o.inj S₁.st.bH S₁.st.lX r₁ hb λs₂ kp F₂=> ?_;have S₂:=S₁.mE o.p kp F₂;refine o.body cF gU _ S₂.st _ X ⟨_,_,h,λf fz m' h ω' e R' E pf rf=> ?_,λ_ (h:False)=>h.elim⟩;subst e;have go:∀{vs},aX r.p.c vs ω'→(guard (aO r.p.v ω'.m=some r.p.bD) fz λsc=>r.K (r.p.bD.drop (i+1)) (cC r.bf vs) sc ω'.m)→∃m,m<r.p.bD.length+1-i∧r.cV m ω'.s:= λF h=>by obtain⟨hc,aeq,hJ⟩:=lP h;exact o.inv hi (S₂.step o.p E R' (F.BN r.bf) hc) hJ
  cases f with
  |next vs=>obtain⟨rfl,F⟩:=rf;exact go F h
  |cont vs=>obtain⟨rfl,F⟩:=rf;exact go F h
  |ret v=>obtain⟨pv,rfl,rv⟩:=rf;exact hR _ _ (o.ret _ _ _ h) ω' rfl R' (S₂.ext.trans S₂.st.bH o.p.S₀ E) _ ⟨_,rfl,rv⟩
theorem Fr.Ok.adX(o:r.Ok target pb){R:U4→Sl→Prop}(hR:∀f m',r.Q f m'→jd r.p.c.b r.p.c.W r.p.ω₀ (Lr r.p.c) (λf s'=>R (.ok f) s') f m')(S:r.p.St 0 aa ω)(h:r.J r.p.bD aa sc ω.m):
  UP r.p.c.b.P.M r.p.c.b.A (.forLoop (zX r.t target) (.ref r.p.I) pb [] r.p.c.env) R ω.s:=by
 refine E4 r.cV (λn s hI X=> ?_) (r.p.bD.length+1) ⟨0,aa,ω,sc,rfl,S,h,rfl,Um _⟩;obtain⟨i,aa,ω,sc,rfl,S,h,rfl,hi⟩:=hI;by_cases k9:i<r.p.bD.length
 ·rw[XO k9] at h
  obtain⟨fz,ht⟩:=o.J _ _ _ _ _ h;exact o.turn hR k9 (S6 k9) S ht
 ·rw[Y8 (SS k9)] at h
  refine GR o.ok.b.hd o.p.bI S.st.bH S.it (Vc (SS k9)) λh₁ EM=> ?_;obtain⟨st,E⟩:=S.CL o.p (s':={ω.s with heap:=h₁}) EM rfl;exact W9 (hR _ _ (o.fin _ _ _ h) (ω.at {ω.s with heap:=h₁}) rfl st.bH E _ ⟨rfl,st.lX.BN r.bf⟩)
end
theorem E1{c:Cx}{t:nO}{target:Su}{pb:List S1}{body:List V→Sc→ai→KF→Prop}{bf:List Nat}{aa bD:List V}{ω:Wd}{v:V}{pv:Value}{J K:List V→List V→Sc→ai→Prop}{ret:V→Sc→ai→Prop}{Q:Fl→ai→Prop}{sc:Sc}(ok:c.Ok)(inj:(c.nm.map (·.2)).Nodup)(tgt:zZ c.env.scope.names c.nm (c.nm.map (·.1)) t target=true)(hb:Ls c pb (λenv sc m k _=>body env sc m k))
  (st:c.St aa ω) (hv:VR ω v pv) (hi:aO v ω.m=some bD) (hJ:J bD aa sc ω.m) (turn:∀x l env sc m,J (x::l) env sc m→∃sc,jK t body v bD bf K ret x l env m sc) (hK:∀l env sc m,K l env sc m→J l env sc m∨Jc ω.n v bD J l env sc m) (akU:∀x sc m,ret x sc m→Q (.ret x) m) (fin:∀env sc m,J [] env sc m→Q (.next (cC bf env)) m):vg c t target pb ω pv Q:= λR X hR=>
 yp st.bH hv hi λo it=>by
  have fI:=bU ω.h;have G:cZ ω.s {ω.s with heap:=ω.h.push o}:=cZ.push (tk:=ω.s.toks) o;have O:Fr.Ok ⟨⟨c,ω,ω.h.objs.size,v,pv,bD⟩,t,body,bf,J,K,ret,Q⟩ target pb:=⟨⟨fQ st.bH.base fI,fI,st.lX.ws⟩,ok,inj,tgt,hb,turn,hK,akU,fin⟩;exact O.adX hR ⟨st.ext G.ext (G.bH st.bH),G.ext.p7 st.wf,it,st.bH.j6 fI,λw=>by obtain⟨_,_,o',e,_⟩:=st.lX.own w;exact no (fI.symm.trans e)⟩ hJ
end
def Bf(c:Cx)(pt:Su)(pb:List S1)(ω:Wd)(Q:Fl→ai→Prop):Prop:= ∀(R:U4→Sl→Prop),(∀f m',Q f m'→jd c.b c.W ω (Lr c) (λf s'=>R (.ok f) s') f m')→UP c.b.P.M c.b.A (.whileLoop pt pb [] c.env) R ω.s
def sA(test:List V→Sc→ai→K V)(body:List V→Sc→ai→KF→Prop)(bf:List Nat)(J:Nat→List V→ai→Prop)(Q:Fl→ai→Prop)(n:Nat)(env:List V)(m:ai)(sc:Sc):Prop:=test env sc m (λv sc m=>ask An.qi (cT.truthy v m) sc λb sc=>two b
 (body env sc m λf _ m=>match f with
  |.ret x=>Q (.ret x) m
  |.next e=> ∃j,j<n∧J j (cC bf e) m
  |.cont e=> ∃j,j<n∧J j (cC bf e) m) (Q (.next env) m)) λ_=>False
theorem HA{c:Cx}{pt:Su}{pb:List S1}{test:List V→Sc→ai→K V}{body:List V→Sc→ai→KF→Prop}{bf:List Nat}{aa:List V}{ω:Wd}{J:Nat→List V→ai→Prop}{Q:Fl→ai→Prop}{n:Nat}(ht:∀aa,Tr c aa pt (dS (test aa)))(hb:Ls c pb (λenv sc m k _=>body env sc m k))
  (Lx:c.St aa ω) (hJ:J n aa ω.m) (turn:∀n env m,J n env m→∃sc,sA test body bf J Q n env m sc):Bf c pt pb ω Q:= λR hR=>by
 refine codeAny_whileLoop (λn s=> ∃aa ω',s=ω'.s∧c.St aa ω'∧fZ c.W ω ω'∧J n aa ω'.m) (λn s hI=> ?_) n ⟨aa,ω,rfl,Lx,.refl,hJ⟩;obtain⟨aa,ω',rfl,st,E,hJ⟩:=hI;obtain⟨sc,h⟩:=turn _ _ _ hJ;refine ht aa sc ω' st _ _ ⟨λb sc m=>two b (body aa sc m λf _ m=>match f with
  |.ret x=>Q (.ret x) m
  |.next e=> ∃j,j<n∧J j (cC bf e) m
  |.cont e=> ∃j,j<n∧J j (cC bf e) m) (Q (.next aa) m),_,h,λb fz m' h ω₁ e R₁ E₁ pb rb=> ?_,λ_ (h:False)=>h.elim⟩
 subst e;subst rb;have cj:=st.ext E₁ R₁;have E':=E.trans st.bH Lx.lX.ws (E₁.p7 st.wf);cases pb with
 |false=>exact W9 (hR _ _ h ω₁ rfl R₁ E' _ ⟨rfl,cj.lX⟩)
 |true=>
  rw[aG rfl];refine hb aa fz ω₁ cj _ _ ⟨_,_,h,λf aeq m'' h ω₂ e R₂ E₂ pf rf=> ?_,λ_ (h:False)=>h.elim⟩;subst e;have zD:=cj.zD.ext E₂;have E'':=E'.trans R₁ Lx.lX.ws E₂;cases f with
  |next vs=>obtain⟨rfl,F⟩:=rf;obtain⟨j,hj,hJ⟩:=h;exact⟨j,hj,_,ω₂,rfl,⟨R₂,F.BN bf,zD⟩,E'',hJ⟩
  |cont vs=>obtain⟨rfl,F⟩:=rf;obtain⟨j,hj,hJ⟩:=h;exact⟨j,hj,_,ω₂,rfl,⟨R₂,F.BN bf,zD⟩,E'',hJ⟩
  |ret v=>obtain⟨pv,rfl,rv⟩:=rf;exact hR _ _ h ω₂ rfl R₂ E'' _ ⟨_,rfl,rv⟩
theorem zS{c:Cx}(ok:c.Ok)(inj:(c.nm.map (·.2)).Nodup){y:Sv}{p:SE}{i:Nat}{scope:TY}{tn:List (Sv×Nat)}{t:nO}{elt target iter:Su}{ifs:List Su}{cpos pos:SE}{RL:List V→Sc→ai→K V}{L:List V→V→Sc→ai→KV→Prop}
  (hc:Aj c.env.scope.names c.nm (c.nm.map (·.1)) i y=true) (sf:sr c.env.scope.names c.nm scope tn) (K8:um iter=true) (hit:∀aa,Ev c aa iter (RL aa))
  (hl:∀aa ω v pv sc k,c.St aa ω→VR ω v pv→L aa v sc ω.m k→mZ c scope t target elt ifs ω v pv (HR k)):
  Ex c (.Assign [.Name y p] (.ListComp elt [⟨zX t target,iter,ifs,0⟩] scope cpos) pos) (λaa sc m k kx=>RL aa sc m (λv sc m=>L aa v sc m λv sc m=>k (.next (aa.set i v)) sc m) kx):=by
 obtain⟨b,hb⟩:∃b,∀line,U9 (.ListComp elt [⟨zX t target,iter,ifs,0⟩] scope cpos) (some (.Name y p)) line c.env=pure b:=⟨_,λ_=>rfl⟩;cases b with
 |false=>exact Ao (x:= λaa sc m k kx=>RL aa sc m (λv sc m=>L aa v sc m k) kx) ok inj hc hb λaa=>HZ ok sf K8 (hit aa) (hl aa)
 |true=>
  intro aa sc ω st Q X w;rw[exec_Assign_Name_used _ _ _ _ (hb _)];refine Sm (Uo (Sm ?_));obtain⟨cl,hcl,h1,h2⟩:=qc (xZ st.lX sf);show Sq _ _ (comprehension (.ListComp elt [⟨zX t target,iter,ifs,0⟩] scope cpos) scope c.env _ (Xw []) false (eval iter c.env) (some (assign (.Name y p) c.env))>>= λ_=>pure ()) _ _ _;refine Sm (apu (use:=some (assign (.Name y p) c.env)) (g:=⟨zX t target,iter,ifs,0⟩) (gs:=[]) rfl (λx=>oG K8 _ x) hcl sf.kind (λx hx he=>kW sf.nd (he▸hx)) ?_);refine(hit aa sc ω st).jk (f:= λv sc m k _=>L aa v sc m λv sc m=>k (Fl.next (aa.set i v)) sc m) st w λω₁ v gU pv cj L₁ r₁ w₁=>w₁.elim λk kx h hk hx=> ?_
  refine hl aa ω₁ v pv gU _ cj r₁ h iter cpos _ X cl h1 h2 λbD P ys ω' k9 hq e=> ?_;obtain⟨fz,hq⟩:=hq;obtain⟨R,E,r,nf⟩:=e.DG P k9;obtain⟨f0,fB⟩:=P.fresh _ (.inr (.inr (.inl rfl)));obtain⟨mm,q⟩:=e.ns;have Q4:=cj.ext E R;refine rZ (c:=c) (ω:=ω'.add (.list ys) (lF c ω₁ scope v pv bD).D (lF c ω₁ scope v pv bD).D ω'.s) ok.kind hc inj Q4.lX r λs₅ kp F₅=> ?_;obtain⟨o,es,ep,ho,hd,hq'⟩:=q;have ah3:¬c.W (lF c ω₁ scope v pv bD).C:= λw=>by obtain⟨_,_,o,e,_⟩:=cj.lX.own w;exact no (f0.symm.trans e)
  have ho₅:=kp.keep _ o ho ah3;refine⟨mm,⟨o,es,ep,ho₅,hd,hq'⟩,λh₆ sb=>Sx (Sx ?_)⟩;have sf:¬jR o:= λf=>f.elim (λ⟨_,_,_,e⟩=>nomatch hd.symm.trans e) λ⟨_,_,e⟩=>nomatch hd.symm.trans e
  have R₆:=(Q4.bH.aaN Q4.lX kp).but (s':={s₅ with heap:=h₆}) sb.extBut nf fB λo' e'=>by cases ho₅.symm.trans e';exact sf
  have E₆:=((E.p7 cj.wf).trans R cj.lX.ws (kp.ext F₅)).abT (s':={s₅ with heap:=h₆}) sb.extBut f0 rfl cj.lX.ws;refine hk _ _ _ hq _ rfl R₆ E₆ _ ⟨rfl,F₅.keep (Le.at λb o' e' f=>sb.extBut b o' (λz=>by subst z;cases ho₅.symm.trans e';exact sf f) e') (λ_ _ _ f=>f) λb o' hw e' _ _=>⟨o',sb.extBut b o' (λz=> ?_) e',rfl⟩⟩;subst z;rcases hw with hw|⟨x,hw⟩
  ·exact ah3 (.inl hw)
  ·obtain⟨_,_,_,ov,q⟩:=cj.lX.dP _ _ hw
   obtain⟨o,q,_⟩:=sO q;exact no (f0.symm.trans q)
section
noncomputable def Mg:S2:={objs:= #[]}
theorem Hv(b:So):Mg.get? b=none:=Vs (Um _)
def ve(h:S2)(l:List SY):Prop:= ∀e∈l,e.scope.kind≠ .module∧∃L o,e.frame=some L∧h.get? L=some o∧∀vs,o.data≠ .fields vs
theorem ve.fun{h:S2}{l:List SY}:ve h l→h.FunFrames Mg l:=by
 induction l with
 |nil=>exactλ_=>trivial
 |cons e l ih=>
  intro a;obtain⟨k,L,o,h1,h2,h3⟩:=a e SI;exact⟨k,⟨L,o,h1,Hv _,h2,h3⟩,ih λe' he=>a e' (S0 _ he)⟩
theorem ve.not{h:S2}{l:List SY}(a:ve h l){b:So}{o:SK}{vs:Array Value}(e:h.get? b=some o)(hd:o.data=.fields vs):b∉RA l:= λhm=>by obtain⟨en,he,hf⟩:=Ze.mp hm;obtain⟨k,L,o',h1,h2,h3⟩:=a en he;cases h1.symm.trans hf;cases e.symm.trans h2;exact h3 vs hd
section
variable{P:PF}{A:S3}{s:Sl}{X:Value→Sl→Prop}{Q:Unit→Sl→Prop}
structure aeh(l:List SY)(x:So)(oe:SK)(h h':S2):Prop where
 it:∃T oT ts,h'.get? x=some (Uy (·.setIfInBounds 1 (T7 T)) oe)∧T≠x∧h.get? T=none∧h'.get? T=some oT∧oT.cls≠ .type "range"∧oT.data=.fields ts∧ts[3]? =some .none
 keep:∀b o,b≠x→b∉RA l→h.get? b=some o→h'.get? b=some o
 zD:∀b o,b∈RA l→h.get? b=some o→∃sl,h'.get? b=some {o with slots:=sl}
theorem agR(a b c d e:Value)(l:List Value):([a,b,c,d,e]++l).toArray.size=l.length+5:=by rw[YK,S4];exact Vv _ _
theorem ym{env:SY}{outer:List SY}{L x:So}{oe:SK}{vs:Array Value}{head:Value}{hadNext:Bool}
  (hfr:A.frames=some (env::outer)) (al:ve s.heap (env::outer)) (hf:env.frame=some L) (he:s.heap.get? x=some oe) (hd:oe.data=.fields vs) (hsz:1<vs.size)
  (hQ:∀h',aeh (env::outer) x oe s.heap h'→Q () {s with heap:=h'}):
  Sq P.M A (do let a←frameOf env;let pl←entryPlaceOf L hadNext;let b←apQ head a .none (Ul L) .none pl;setField (.ref x) 1 b) (λ_ s'=>Sq P.M A (Wh (.ref x) none) Q X s') X s:=by
 have hx:=al.not he hd;refine Sm (wpAny_frameOf_fun hfr al.fun hf λh₁ EM=> ?_);refine Sm (wpAny_entryPlaceOf λpl hpl=> ?_);unfold apQ newFields;refine Sm (Vh ?_ (hpl.sizeOk5 _ _ _ _ _));have he₁:h₁.get? x=some oe:=(EM.2.1 x hx).trans he;have hT0:s.heap.get? h₁.objs.size=none:=by rw[EM.1];exact bU _
 generalize ane:(if pl.isEmpty then SR 6 Ti else pl)=pl';have he₂:=S7 (h:=h₁) {cls:= .type "traceback",data:= .fields ([head,.ref L,.none,Ul L,.none]++pl').toArray} he₁;refine VF he₂ hd hsz ?_;have hTe:h₁.objs.size≠x:=Vt (UG he₁);have hd₃:=V3 hd (·.setIfInBounds 1 (T7 h₁.objs.size));have he₃:=Ut (Uy (·.setIfInBounds 1 (T7 h₁.objs.size))) he₂ (WB hd₃);have hT₂:(h₁.push {cls:= .type "traceback",data:= .fields ([head,.ref L,.none,Ul L,.none]++pl').toArray}).get? h₁.objs.size=_:=Tt h₁ rfl;have hT₃:=(UO (h₁.push {cls:= .type "traceback",data:= .fields ([head,.ref L,.none,Ul L,.none]++pl').toArray}) (Uy (·.setIfInBounds 1 (T7 h₁.objs.size))) (Tf hTe)).trans hT₂;unfold Wh;refine Sm (Us he₃ hd₃ (x:= .ref h₁.objs.size) (XX hsz) ?_);rw[aG (show(T7 h₁.objs.size !=Ti)=true from rfl)];have Lu:=V3 (o:={cls:= .type "traceback",data:= .fields ([head,.ref L,.none,Ul L,.none]++pl').toArray}) rfl (·.setIfInBounds 3 ((none:Option So).elim Ti λf=>Ul f));have sz:3<([head,T7 L,.none,Ul L,.none]++pl').toArray.size:=by rw[agR];exact SX (by decide) (Xa 5 _)
 refine VF hT₃ rfl sz (hQ _ ⟨⟨h₁.objs.size,_,_,?_,hTe,hT0,Ut _ hT₃ (WB Lu),?_,Lu,XX sz⟩,?_,?_⟩)
 ·exact(UO _ _ hTe).trans he₃
 ·rw[Yw];exact iZ (by decide)
 all_goals
  have keep:∀b o,b≠x→h₁.get? b=some o→(((h₁.push {cls:= .type "traceback",data:= .fields ([head,.ref L,.none,Ul L,.none]++pl').toArray}).update x (Uy (·.setIfInBounds 1 (T7 h₁.objs.size)))).update h₁.objs.size (Uy (·.setIfInBounds 3 ((none:Option So).elim Ti λf=>Ul f)))).get? b=some o:= λb o hbe hb=>by rw[UO _ _ (Vt (UG hb)),UO _ _ (Tf hbe)];exact S7 _ hb
 ·exactλb o hb hn e=>keep b o hb ((EM.2.1 b hn).trans e)
 ·intro b o hm e
  obtain⟨sl,e'⟩:=EM.2.2 b o e;exact⟨sl,keep b _ (λz=>hx (z▸hm)) e'⟩
structure Sj(P:PF)(l:List SY)(x:So)(h h':S2):Prop where
 ex:Dv P h' x
 keep:∀b o,h.get? b=some o→b≠x→(∀oe vs,h.get? x=some oe→oe.data=.fields vs→vs[1]? ≠some (.ref b))→b∉RA l→h'.get? b=some o
 zD:∀b o,h.get? b=some o→b∈RA l→∃sl,h'.get? b=some {o with slots:=sl}
 tb:∀T,(∃oe vs,h'.get? x=some oe∧oe.data=.fields vs∧vs[1]? =some (.ref T))→h.get? T=none
theorem aeh.left{l:List SY}{x:So}{oe:SK}{vs:Array Value}{h h₀ h':S2}(c:aeh l x oe h₀ h')(hc:oe.cls=.ref P.ex)(hd:oe.data=.fields vs)(h2:vs[2]? =some .none)(hsz:1<vs.size)(hn:∀b,h₀.get? b=none→h.get? b=none)
  (hk:∀b o,h.get? b=some o→b≠x→(∀oe vs,h.get? x=some oe→oe.data=.fields vs→vs[1]? ≠some (.ref b))→h₀.get? b=some o) (hf:∀b o,b∈RA l→h.get? b=some o→h₀.get? b=some o):Sj P l x h h':=by
 obtain⟨T,oT,ts,e1,e2,e3,e4,e5,e6,e7⟩:=c.it;have hd':=V3 hd (·.setIfInBounds 1 (T7 T));refine⟨⟨_,_,e1,(Yw ..).trans hc,hd',?_,.inr ⟨T,oT,ts,XX hsz,e2,e4,e5,e6,e7⟩⟩,λb o e hb hT hn=>c.keep b o hb hn (hk b o e hb hT),λb o e hm=>c.zD b o hm (hf b o hm e),λT' ⟨oe',vs',q1,q2,q3⟩=> ?_⟩
 ·rw[Array.getElem?_setIfInBounds_ne (by decide)];exact h2
 ·cases e1.symm.trans q1
  cases hd'.symm.trans q2;cases(XX hsz).symm.trans q3;exact hn _ e3
theorem EY{env:SY}{outer:List SY}{L x:So}(hfr:A.frames=some (env::outer))(al:ve s.heap (env::outer))(hf:env.frame=some L)(ex:Dv P s.heap x)
  (hQ:∀h',Sj P (env::outer) x s.heap h'→Q () {s with heap:=h'}):
  Sq P.M A (W3 (.ref x) env) (λ_ s'=>Sq P.M A (Wh (.ref x) none) Q X s') X s:=by
 obtain⟨oe,vs,he,hc,hd,h2,h1⟩:=ex;unfold W3;rw[hf];rcases h1 with h1|⟨T,oT,ts,h1,hTe,hT,hTr,Lu,h3⟩
 ·have hsz:1<vs.size:=(Xb.mp h1).1
  refine Sm (Us he hd h1 ?_);rw[aJ (by decide)];exact ym hfr al hf he hd hsz λh' c=>hQ h' (c.left hc hd h2 hsz (λ_ e=>e) (λ_ _ e _ _=>e) λ_ _ _ e=>e)
 ·have hsz:1<vs.size:=(Xb.mp h1).1
  refine Sm (Us he hd h1 ?_);rw[aG (show(T7 T !=Ti)=true from rfl)];refine Sm (Us hT Lu h3 ?_);rw[aJ (show¬((Ti==Ul L)=true) fromλz=>nomatch (eq_of_beq z))]
  refine Sm (VF hT Lu (Xb.mp h3).1 ?_);have other:∀b,b≠T→(s.heap.update T (Uy (·.setIfInBounds 3 Ti))).get? b=s.heap.get? b:= λb hb=>UO _ _ (Tf hb);have al':ve (s.heap.update T (Uy (·.setIfInBounds 3 Ti))) (env::outer):= λe he=>by obtain⟨k,L',o,p1,p2,p3⟩:=al e he;exact⟨k,L',o,p1,(other L' (λz=>by subst z;cases hT.symm.trans p2;exact p3 ts Lu)).trans p2,p3⟩
  have hTf:=al.not hT Lu;refine ym (s:={s with heap:=s.heap.update T (Uy (·.setIfInBounds 3 Ti))}) hfr al' hf ((other x (Tf hTe)).trans he) hd hsz λh' c=>hQ h' (c.left hc hd h2 hsz (λb e=> ?_) (λb o e hb hnT=>(other b (λz=> ?_)).trans e) λb o hm e=>(other b (λz=>hTf (z▸hm))).trans e)
  ·by_cases z:b=T
   ·subst z
    exact no (e.symm.trans (Ut (Uy (·.setIfInBounds 3 Ti)) hT (WB (V3 Lu _))))
   ·exact(other b z).symm.trans e
  ·subst z
   exact hnT oe vs he hd h1
end
end
section
theorem yy.alive{b:Bx}{ω:Wd}(S:yy b ω):ve ω.h b.l:= λe he=>by obtain⟨k,L,hf,⟨o,ho,⟨es,ep,hd⟩,hc⟩,hn,hb⟩:=S e he;exact⟨k,L,o,hf,ho,λvs e=>nomatch hd.symm.trans e⟩
theorem yy.mem{b:Bx}{ω:Wd}(S:yy b ω){a:So}(m:a∈RA b.l):(∃o,ω.h.get? a=some o∧P5 o∧o.cls=.type "frame")∧¬ez ω a∧b.B a=none:=by obtain⟨en,he,hf⟩:=Ze.mp m;obtain⟨k,L,hf',hh,hn,hb⟩:=S en he;cases hf'.symm.trans hf;exact⟨hh,hn,hb⟩
section
variable{b:Bx}{W:So→Prop}{ω ω':Wd}{x:So}{OF:S2}
theorem IF{P:PF}{h:S2}(ex:Dv P h x){a:So}{o:SK}(e:h.get? a=some o)(c:(∀vs,o.data≠ .fields vs)∨jR o):a≠x∧∀oe vs,h.get? x=some oe→oe.data=.fields vs→vs[1]? ≠some (.ref a):=by
 obtain⟨oe,vs,he,hc,hd,h2,h1⟩:=ex;refine⟨λz=> ?_,λoe' vs' q1 q2 q3=> ?_⟩
 ·subst z
  cases he.symm.trans e;rcases c with c|c
  ·exact c vs hd
  ·exact gI (.inr (.inr ⟨_,hc⟩)) c
 ·cases he.symm.trans q1
  cases hd.symm.trans q2;rcases h1 with h1|⟨T,oT,ts,h1,hTx,hTo,hTr,hTd,h3⟩
  ·exact nomatch h1.symm.trans q3
  ·cases h1.symm.trans q3
   cases hTo.symm.trans e;rcases c with c|⟨_,xs,k,c⟩|⟨c,_⟩
   ·exact c ts hTd
   ·exact nomatch hTd.symm.trans c
   ·exact hTr c
theorem fC.old(F:fC b W ω ω' x){a:So}{o₀:SK}(e:ω.h.get? a=some o₀):a≠x∧∀oe vs,ω'.h.get? x=some oe→oe.data=.fields vs→vs[1]? ≠some (.ref a):=
 ⟨λz=>no (F.new.symm.trans (z▸e)),λoe vs q1 q2 q3=>no ((F.tb a ⟨oe,vs,q1,q2,q3⟩).symm.trans e)⟩
theorem fC.LU(S:yy b ω')(F:fC b W ω ω' x)(D:Sj b.P b.l x ω'.h OF){a:So}{o:SK}(e:ω'.h.get? a=some o)(c:a≠x∧∀oe vs,ω'.h.get? x=some oe→oe.data=.fields vs→vs[1]? ≠some (.ref a)):∃o',OF.get? a=some o'∧pM o o':=by
 by_cases q:a∈RA b.l
 ·obtain⟨⟨o₁,e₁,_,c₁⟩,_⟩:=S.mem q
  cases e.symm.trans e₁;obtain⟨sl,e'⟩:=D.zD a o e q;exact⟨_,e',.inr ⟨c₁,sl,rfl⟩⟩
 ·exact⟨o,D.keep a o e c.1 c.2 q,.inl rfl⟩
theorem fC.left(R:b.bY ω)(S:yy b ω')(WSs:WS W ω.h)(F:fC b W ω ω' x)(D:Sj b.P b.l x ω'.h OF):fC b W ω (ω'.at {ω'.s with heap:=OF}) x where
 bH:=F.bH.bg λa o e c=>by
  have nfr:a∉RA b.l:= λq=>by
   obtain⟨⟨o₁,e₁,_,c₁⟩,c₂,c₃⟩:=S.mem q;cases e.symm.trans e₁;rcases c with c|c|c
   ·exact c₂ c
   ·rw[c₃] at c;exact gg c
   ·exact c.elim (λz=>iZ (by decide) (c₁.symm.trans z.1)) λz=>iZ (by decide) (c₁.symm.trans z.1)
  have fin:(a≠x∧∀oe vs,ω'.h.get? x=some oe→oe.data=.fields vs→vs[1]? ≠some (.ref a))→OF.get? a=some o:= λt=>D.keep a o e t.1 t.2 nfr;rcases c with c|c|c
  ·obtain⟨o',e',_,q⟩:=F.bH.lD c
   cases e.symm.trans e';exact fin (IF F.exc e (.inl q))
  ·obtain⟨ob,CM⟩:=Y7.mp c
   exact fin (F.old (R.base a ob CM))
  ·exact fin (IF F.exc e (.inr c))
 new:=F.new
 exc:=D.ex
 ext:=by
  refine⟨F.ext.len,F.ext.live,F.ext.loc,λa o e f w=> ?_,λw a wb=> ?_,F.ext.new,λa o w e d=> ?_,F.ext.rest.trans rfl⟩
  ·obtain⟨o',e',s'⟩:=F.ext.keep a o e f w
   obtain⟨Jg,Oc,Fo⟩:=F.LU S D e' (F.old e);exact⟨Jg,Oc,s'.trans Fo⟩
  ·obtain⟨o₀,e₀,_⟩:=w a wb
   obtain⟨o',e',q⟩:=F.ext.soft w a wb;obtain⟨Jg,Oc,Fo⟩:=F.LU S D e' (F.old e₀);exact⟨Jg,Oc,Fo.soft q⟩
  ·obtain⟨o',e',⟨es,ep,d'⟩,c'⟩:=F.ext.cls a o w e d
   obtain⟨Jg,Oc,Fo⟩:=F.LU S D e' (F.old e);exact⟨Jg,Oc,⟨es,ep,Fo.data.trans d'⟩,Fo.cls.trans c'⟩
 tb T hh:=F.ext.A0 F.bH WSs (D.tb T hh)
theorem fC.split{A:S3}{env:SY}{outer:List SY}{L:So}{Q:Unit→Sl→Prop}{X:Value→Sl→Prop}(hl:b.l=env::outer)(hfr:A.frames=some b.l)(R:b.bY ω)(S:yy b ω)(hf:env.frame=some L)(WSs:WS W ω.h)
  (F:fC b W ω ω' x) (hQ:∀ω'',ω''.m=ω'.m→fC b W ω ω'' x→Q () ω''.s):Sq b.P.M A (W3 (.ref x) env) (λ_ s₁=>Sq b.P.M A (Wh (.ref x) none) Q X s₁) X ω'.s:=by
 have S':=S.ext F.ext;have al:=S'.alive;rw[hl] at al;refine EY (hfr.trans (bk some hl)) al hf F.exc λOF D=> ?_;rw[←hl] at D;exact hQ (ω'.at {ω'.s with heap:=OF}) rfl (F.left R S' WSs D)
theorem fC.PJ{A:S3}{env:SY}{outer:List SY}{L:So}{Q:Unit→Sl→Prop}{X:Value→Sl→Prop}(hl:b.l=env::outer)(hfr:A.frames=some b.l)(R:b.bY ω)(S:yy b ω)(hf:env.frame=some L)(WSs:WS W ω.h)
  (F:fC b W ω ω' x) (hQ:∀ω'',ω''.m=ω'.m→fC b W ω ω'' x→Q () ω''.s):Sq b.P.M A (leaving env (.ref x)) Q X ω'.s:=by
 unfold leaving;exact Sm (F.split hl hfr R S hf WSs hQ)
end
end
section
noncomputable def jh:Option SK→ClassData
 |some o=>(match o.data with
  |.cls cd=>cd
  |_=>default)
 |none=>default
noncomputable def zQ(o:Option SK)(i:Nat):Option Value:=(o.bind λo=>o.slots[i]?).getD none
noncomputable abbrev mkX(ex:So)(o:Option SK):SK:=excClassObj (jh o).name (jh o).qualname ex (jh o).ns (jh o).bases (jh o).mro.tail (jh o).hasDict (jh o).slotNames (jh o).subclasses (jh o).abstract (jh o).collection (o.bind apR) (zQ o 0) (zQ o 1) (zQ o 2) (zQ o 3) (zQ o 5) "Exception.__new__"
structure XF(P:PF):Prop where
 name:Ub P.K TG (SH "ConfRefused")=some (some (.ref P.ex))
 at_:P.K.lookup P.ex=some (mkX P.ex (P.K.lookup P.ex))
 tail:tailIn P.K [.type "Exception",.type "BaseException",.type "object"] (jh (P.K.lookup P.ex)).mro.tail=true
 ok:nsOkIn P.K (jh (P.K.lookup P.ex)).ns=true
 CQ:Ub P.K (jh (P.K.lookup P.ex)).ns "__init__"=some none
theorem XF.obj{P:PF}(X:XF P){h:S2}(I:P.K.In h):∃mN,h.get? P.ex=some (mkX P.ex (P.K.lookup P.ex))∧h.Ns (jh (P.K.lookup P.ex)).ns mN∧mN "__init__"=none∧OwnTail h [.type "Exception",.type "BaseException",.type "object"] (jh (P.K.lookup P.ex)).mro.tail:=
 ⟨_,I _ _ X.at_,.of_isNs (isNs_of_in I X.ok),nsMap_none_of_in I X.ok X.CQ,tail_of_in I X.tail⟩
noncomputable abbrev xn:Sv:=SH "ConfRefused"
theorem J9{c:Cx}(ok:c.Ok)(xf:XF c.b.P){t:Sv}{k:Nat}{np ap cpos pos:SE}(hk:c.env.kindOf xn=some .globalImplicit):
  Ex c (.Raise (some (.Call (.Name xn np) [.Constant (.str t) k ap] [] cpos)) none pos) (λ_ _ m _ kx=>kx m):= λaa sc ω st Q X w=>by
 obtain⟨hh,hx⟩:=w.exn;obtain⟨mN,hC,hN,hni,T⟩:=xf.obj (ok.b.fb.Mn _ st.bH.base);generalize c.b.P.K.lookup c.b.P.ex=oX at hC hN hni T;refine wpAny_Raise_call_subT (C:=c.b.P.ex) (nm:=(jh oX).name) (q:=(jh oX).qualname) (N:=(jh oX).ns) (bs:=(jh oX).bases) (bm:=(jh oX).mro.tail) (hdct:=(jh oX).hasDict) (sn:=(jh oX).slotNames) (sub:=(jh oX).subclasses) (ab:=(jh oX).abstract) (col:=(jh oX).collection) (dd:=oX.bind apR) (k0:=zQ oX 0) (k1:=zQ oX 1) (k2:=zQ oX 2) (k3:=zQ oX 3) (k5:=zQ oX 5)
  Zf (mN:=mN) (T.hasType Zf.hasBase) hh rfl hni (nk ok (by decide+kernel) hk xf.name st ⟨rfl,?_⟩)
 refine jG rfl ?_;rw[qp rfl];refine Calls.spliced_cons (XK (k:=k) (pos:=ap) (Calls.spliced_nil ⟨rfl,(by decide:1≤Uc),hC,hN,T,λh' e hm=> ?_⟩));have G:cZ ω.s {ω.s with heap:=h',toks:=ω.s.toks+1}:= .of hm.keeps;obtain⟨tt,h1,h2,h3⟩:=hm.there;refine hx (ω.at {ω.s with heap:=h',toks:=ω.s.toks+1}) _ rfl ⟨G.bH st.bH,hm.new,⟨_,_,h1,rfl,rfl,rfl,.inl rfl⟩,G.ext.p7 st.wf,λT ⟨oe,vs,e1,e2,e3⟩=> ?_⟩;cases h1.symm.trans e1;cases e2;exact nomatch e3
theorem Df{P:PF}{A:S3}{s:Sl}{x:So}{Q:Unit→Sl→Prop}{X:Value→Sl→Prop}(ex:Dv P s.heap x)(hQ:∀h',(∀b,h'.get? b=s.heap.get? b)→Q () {s with heap:=h'}):
  Sq P.M A (Wh (.ref x) none) Q X s:=by
 obtain⟨oe,vs,he,hc,hd,h2,h1⟩:=ex;unfold Wh;rcases h1 with h1|⟨T,oT,ts,h1,hTe,hT,hTr,Lu,h3⟩
 ·refine Sm (Us he hd h1 ?_)
  rw[aJ (by decide)];exact Sx (hQ s.heap λ_=>rfl)
 ·refine Sm (Us he hd h1 ?_)
  rw[aG (show(T7 T !=Ti)=true from rfl)];refine VF hT Lu (Xb.mp h3).1 (hQ _ λb=> ?_);have yq:Uy (·.setIfInBounds 3 ((none:Option So).elim Ti λf=>Ul f)) oT=oT:=by
   obtain⟨k1,k2,k3,k4⟩:=oT;cases Lu;obtain⟨h3,e3⟩:=Xb.mp h3;have:ts.setIfInBounds 3 Ti=ts:=ZF λi=>by
    rw[Array.getElem?_setIfInBounds];by_cases q:3=i
    ·subst q;rw[aG rfl,aG h3,VY h3,e3]
    ·rw[aJ q]
   exact bk (λz=>Obj.mk k1 k2 (.fields z) k4) this
  by_cases q:b=T
  ·subst q
   rw[Ut _ hT (WB (V3 Lu _)),yq,hT]
  ·exact UO _ _ (Tf q)
noncomputable def Base.more(B:Base)(x:So)(o:SK):Base:= λb=>if b=x then some o else B b
noncomputable abbrev Bx.more(b:Bx)(x:So)(o:SK):Bx:={b with B:=b.B.more x o,A:=b.A.mark (some (.ref x))}
noncomputable abbrev Cx.more(c:Cx)(x:So)(o:SK):Cx:={c with b:=c.b.more x o,q:=true}
section
variable{b:Bx}{c:Cx}{ω:Wd}{aa:List V}{x:So}{o:SK}{vs:Array Value}{B:Base}
theorem Base.zb(hx:B x=none){a:So}{ob:SK}(e:B a=some ob):B.more x o a=some ob:=by unfold Base.more;rw[aJ λz=>no (hx.symm.trans (z▸e))];exact e
theorem Base.nM{a:So}(hb:a≠x)(e:B a=none):B.more x o a=none:=by unfold Base.more;rw[aJ hb];exact e
theorem Base.yD{a:So}(e:B.more x o a=none):B a=none:=by
 unfold Base.more at e;by_cases z:a=x
 ·rw[aG z] at e;exact no e.symm
 ·rw[aJ z] at e;exact e
theorem bY.more(R:b.bY ω)(hx:b.B x=none)(e:ω.h.get? x=some o)(hd:o.data=.fields vs):(b.more x o).bY ω:=by
 have nx:∀{a},ez ω a→a≠x:= λf z=>by obtain⟨o',e',_,c⟩:=R.lD f;cases e.symm.trans (z▸e');exact c vs hd
 refine⟨λa ob q=> ?_,R.obj,R.apart,λa ha=>⟨Base.nM (nx ⟨a,ha,.inl rfl⟩) (R.fresh a ha).1,Base.nM (nx ⟨a,ha,.inr rfl⟩) (R.fresh a ha).2⟩⟩;by_cases z:a=x
 ·have q:(if a=x then some o else b.B a)=some ob:=q
  rw[aG z] at q;rw[z,e,q]
 ·have q:(if a=x then some o else b.B a)=some ob:=q
  rw[aJ z] at q;exact R.base a ob q
theorem bY.yD(R:(b.more x o).bY ω)(hx:b.B x=none):b.bY ω:=
 ⟨λa ob q=>R.base a ob (Base.zb hx q),R.obj,R.apart,λa ha=>⟨Base.yD (R.fresh a ha).1,Base.yD (R.fresh a ha).2⟩⟩
theorem yy.more(S:yy b ω)(e:ω.h.get? x=some o)(hd:o.data=.fields vs):yy (b.more x o) ω:= λen he=>by obtain⟨k,L,hf,⟨o',Ea,⟨es,ep,q⟩,hc⟩,hn,hb⟩:=S en he;exact⟨k,L,hf,⟨o',Ea,⟨es,ep,q⟩,hc⟩,hn,Base.nM (λz=>by subst z;cases e.symm.trans Ea;exact nomatch hd.symm.trans q) hb⟩
theorem aX.more(F:aX c aa ω)(e:ω.h.get? x=some o)(hd:o.data=.fields vs):aX (c.more x o) aa ω:=by
 refine⟨F.ns,F.cell,⟨F.off.1,Base.nM (λz=> ?_) F.off.2⟩,λy a q=> ?_,F.u0⟩
 ·obtain⟨mm,⟨o',es,ep,e',q,_⟩,_⟩:=F.ns
  cases e.symm.trans (z▸e');exact nomatch hd.symm.trans q
 ·obtain⟨p1,p2,p3,ov,o',e',q'⟩:=F.dP y a q
  exact⟨p1,Base.nM (λz=>by subst z;cases e.symm.trans e';exact nomatch hd.symm.trans q') p2,p3,ov,o',e',q'⟩
theorem aX.yD(F:aX (c.more x o) aa ω):aX c aa ω:=
 ⟨F.ns,F.cell,⟨F.off.1,Base.yD F.off.2⟩,λy a q=>have p:=F.dP y a q;⟨p.1,Base.yD p.2.1,p.2.2⟩,F.u0⟩
theorem Jb.more(F:Jb b.P b.B)(hx:b.B x=none):Jb b.P (b.B.more x o):=by have ab:∀h,fu (b.B.more x o) h→fu b.B h:= λh a d ob q=>a d ob (Base.zb hx q);refine⟨λh a=>F.Mn h (ab h a),λh a=>F.dI h (ab h a),λh a=>F.lim h (ab h a),?_⟩;obtain⟨ob,CM⟩:=Y7.mp F.sys;rw[Base.zb hx CM];rfl
theorem BOk.more(ok:BOk b)(hx:b.B x=none)(hd:o.data=.fields vs)(h2:vs[2]? =some .none):BOk (b.more x o):=⟨ok.fb.more hx,.inr ⟨x,o,vs,rfl,aG rfl,hd,h2⟩,ok.fr,ok.cf,ok.gf⟩
end
end
theorem Lr.yD{c:Cx}{x:So}{o:SK}{ω:Wd}{f:Fl}{pf:Flow}(r:Lr (c.more x o) ω f pf):Lr c ω f pf:=by
 cases f with
 |next vs=>exact⟨r.1,r.2.yD⟩
 |cont vs=>exact⟨r.1,r.2.yD⟩
 |ret v=>exact r
theorem Cx.Ok.more{c:Cx}(ok:c.Ok){x:So}{o:SK}{vs:Array Value}(hx:c.b.B x=none)(hd:o.data=.fields vs)(h2:vs[2]? =some .none):(c.more x o).Ok:=⟨ok.b.more hx hd h2,ok.kind,ok.dI,ok.bi,ok.units,.inr rfl⟩
theorem acV{c:Cx}(ok:c.Ok)(xf:XF c.b.P){aa:List V}{ω ω':Wd}{x:So}{sc:Sc}{np:SE}{b₀:S1}{Er:List S1}{aeH:SE}{y:List V→Sc→ai→K Fl}{Q:Flow→Sl→Prop}{X:Value→Sl→Prop}{k:KF}(hk:c.env.kindOf xn=some .globalImplicit)
  (hh:∀oe vs,c.b.B x=none→oe.data=.fields vs→vs[2]? =some .none→Ls (c.more x oe) (b₀::Er) y) (st:c.St aa ω) (F:fC c.b W0 ω ω' x) (hy:y aa sc ω'.m k λ_=>False) (QC:∀f sc m',k f sc m'→jd c.b c.W ω (Lr c) Q f m'):
  Sq c.b.P.M c.b.A (handleBy (.ref x) c.env [.ExceptHandler (some (.Name xn np)) none (b₀::Er) aeH]) Q X ω'.s:=by
 have bx:=fQ st.bH.base F.new;have ex:=F.exc;obtain⟨oe,vs,he,hcx,hd,h2,h1⟩:=ex;have st':=st.ext F.ext F.bH;have acY:(c.more x oe).St aa ω':=⟨F.bH.more bx he hd,st'.lX.more he hd,st'.zD.more he hd⟩;obtain⟨mN,hC,hN,hni,T⟩:=xf.obj (ok.b.fb.Mn _ F.bH.base);refine wpAny_handleBy_cons (codeAny_handlers_test (nk (c:=c.more x oe) (ok.more bx hd h2) (by decide+kernel) hk xf.name acY ?_)) (λq=>nomatch q)
 refine wpAny_excMatches_sub_self hC he hcx (T.hasType Zf.hasBase) (codeAny_handlers_suite ?_);refine Df (P:=c.b.P) (s:=ω'.s) F.exc λh₃ heq=> ?_;have G:cZ ω'.s {ω'.s with heap:=h₃}:= .of λb o e=>(heq b).trans e;refine hh oe vs bx hd h2 aa sc _ (acY.ext G.ext (G.bH acY.bH)) _ _ ⟨k,_,hy,λf sc m' hf ω₂ e R₂ E₂ pf rf=> ?_,λ_ h=>h.elim⟩;exact QC f sc m' hf ω₂ e (R₂.yD bx) ((F.ext.p7 st.wf).trans F.bH st.lX.ws ((G.ext.p7 st'.wf).trans (G.bH F.bH) st'.lX.ws E₂)) pf rf.yD
theorem ab2{c:Cx}(ok:c.Ok)(xf:XF c.b.P)(hq:c.b.A.handled=none){outer:List SY}{L:So}(hl:c.b.l=c.env::outer)(hf:c.env.frame=some L)(inj:(c.nm.map (·.2)).Nodup){z:Sv}{p:SE}{pe:Su}{i:Nat}{np apos aeH pos:SE}{b₀:S1}{Er:List S1}{x:List V→Sc→ai→K V}{y:List V→Sc→ai→K Fl}
  (hc:Aj c.env.scope.names c.nm (c.nm.map (·.1)) i z=true) (hs:∀line,U9 pe (some (.Name z p)) line c.env=pure false) (h:∀aa,Ev c aa pe (x aa)) (hk:c.env.kindOf xn=some .globalImplicit)
  (hh:∀a oe vs,c.b.B a=none→oe.data=.fields vs→vs[2]? =some .none→Ls (c.more a oe) (b₀::Er) y):
  Ex c (.Try [.Assign [.Name z p] pe apos] [.ExceptHandler (some (.Name xn np)) none (b₀::Er) aeH] [] [] pos) (λaa sc m k _=>x aa sc m (λv sc m=>k (.next (aa.set i v)) sc m) λm'=> ∃sc,y aa sc m' k λ_=>False):= λaa sc ω st Q X w=>by
 obtain⟨h1,h2,h3⟩:=xh hc;refine w.elim λk kx hp QC _=> ?_;refine wpAny_Try_except (apO (apL (hs:=hs _) (h aa sc ω st _ _ ⟨_,_,hp,λv sc m' hv ω₁ e R E pv r=> ?_,λm' hy=>⟨hq,λω' a e F=> ?_⟩⟩)))
 ·subst e
  have cj:=st.ext E R;exact nu ok.kind h3 h1 h2 inj cj.lX r λs' kp F'=>W9 (W9 (QC _ _ _ hv (ω₁.at s') rfl (cj.bH.aaN cj.lX kp) ((E.p7 st.wf).trans R st.lX.ws (kp.ext F')) _ ⟨rfl,F'⟩))
 ·subst e
  refine F.split hl ok.b.fr st.bH st.zD hf .none λω'' em F'=> ?_;obtain⟨sc,hy⟩:=em▸hy;exact acV ok xf hk (hh a) st F' hy QC
section
noncomputable def af8:ExceptHandler→Option Su|.ExceptHandler t _ _ _=>t
noncomputable def ahm:ExceptHandler→List S1|.ExceptHandler _ _ b _=>b
noncomputable def akw:ExceptHandler→SE|.ExceptHandler _ _ _ p=>p
noncomputable def F1:S1→List Su×List (List S1)×SE
 |.Return e _=>(e.toList,[],default)
 |.Expr e _=>([e],[],default)
 |.Assign ts v _=>(v::ts,[],default)
 |.AugAssign t _ v _=>([v,t],[],default)
 |.If c b o _=>([c],[b,o],default)
 |.For t it b _ _=>([it,t],[b],default)
 |.While c b _ _=>([c],[b],default)
 |.Raise e _ _=>(e.toList,[],default)
 |.Try b hs _ _ _=>(hs.filterMap af8,b::hs.map ahm,(hs.head?.map akw).getD default)
 |_=>([],[],default)
noncomputable def ke(i:Nat)(s:S1):Su:=(F1 s).1.getD i (.Name (SH "") default)
noncomputable def kb(i:Nat)(s:S1):List S1:=(F1 s).2.1.getD i []
noncomputable def FW(l:List S1):S1:=l.headD (.Pass default)
noncomputable def aio(k:WO):Sv:=match k with|.str t=>t|_=>SH ""
mutual
noncomputable def unS:S→S1→S1
 |.stuck,s=>s
 |.P8,s=> .Pass s.pos
 |.cont,s=> .Continue s.pos
 |.tV,s=> .Return none s.pos
 |.kh,s=> .Raise (some (.Call (.Name xn (dR 0 (ke 0 s)).pos) [.Constant (.str (aio (Cf (dR 1 (ke 0 s))))) (zy (dR 1 (ke 0 s))) (dR 1 (ke 0 s)).pos] [] (ke 0 s).pos)) none s.pos
 |.ret e,s=> .Return (some (ig e (ke 0 s))) s.pos
 |.expr e,s=> .Expr (ig e (ke 0 s)) s.pos
 |.assign _ e,s=> .Assign [Nj (ke 1 s)] (ig e (ke 0 s)) s.pos
 |.unpack ks e,s=> .Assign [zX (.iJ ks) (ke 1 s)] (ig e (ke 0 s)) s.pos
 |.setAttr o x e,s=> .Assign [.Attribute (ig o (dR 0 (ke 1 s))) x.str (ke 1 s).pos] (ig e (ke 0 s)) s.pos
 |.cG o i e,s=> .Assign [.Subscript (ig o (dR 0 (ke 1 s))) (ig i (dR 1 (ke 1 s))) (ke 1 s).pos] (ig e (ke 0 s)) s.pos
 |.Lq _ op e,s=> .AugAssign (Nj (ke 1 s)) (nN op) (ig e (ke 0 s)) s.pos
 |.qx o x op e,s=> .AugAssign (.Attribute (ig o (dR 0 (ke 1 s))) x.str (ke 1 s).pos) (nN op) (ig e (ke 0 s)) s.pos
 |.rD o i op e,s=> .AugAssign (.Subscript (ig o (dR 0 (ke 1 s))) (ig i (dR 1 (ke 1 s))) (ke 1 s).pos) (nN op) (ig e (ke 0 s)) s.pos
 |.cO c t e,s=> .If (ig c (ke 0 s)) (Bu t (kb 0 s)) (Bu e (kb 1 s)) s.pos
 |.iH t it body _,s=> .For (zX t (ke 1 s)) (ig it (ke 0 s)) (Bu body (kb 0 s)) [] s.pos
 |.rR c body _,s=> .While (ig c (ke 0 s)) (Bu body (kb 0 s)) [] s.pos
 |.JX _ e h,s=> .Try [.Assign [Nj (ke 1 (FW (kb 0 s)))] (ig e (ke 0 (FW (kb 0 s)))) (FW (kb 0 s)).pos] [.ExceptHandler (some (.Name xn (ke 0 s).pos)) none (Bu h (kb 1 s)) (F1 s).2.2] [] [] s.pos
noncomputable def Bu:Ss→List S1→List S1
 |.zn,_=>[]
 |.zc s ss,l=>unS s (FW l)::Bu ss l.tail
end
theorem aaI(e:E):e.CA=true∨(∃t it cs el,e=.comp t it cs el)∨e=.stuck:=by cases e<;>first|exact .inl rfl|exact .inr (.inl ⟨_,_,_,_,rfl⟩)|exact .inr (.inr rfl)
noncomputable def Ss.some:Ss→Bool
 |.zn=>false
 |.zc _ _=>true
noncomputable def Sk.N(sk:Sk)(i:Nat)(x:Sv):Bool:=Aj sk.names sk.nm (sk.nm.map (·.1)) i x
noncomputable def Sk.T(sk:Sk)(t:nO)(pe:Su):Bool:=zZ sk.names sk.nm (sk.nm.map (·.1)) t pe
mutual
noncomputable def okS(sk:Sk):S→S1→Bool
 |.stuck,_=>true
 |.P8,_=>true
 |.cont,_=>true
 |.tV,_=>true
 |.kh,_=>sk.gl "ConfRefused"
 |.ret e,s=>lZ sk e (ke 0 s)
 |.expr e,s=>e.CA&&lZ sk e (ke 0 s)
 |.assign i e,s=>sk.N i (Ae (ke 1 s))&&lZ sk e (ke 0 s)
 |.unpack ks e,s=>sk.T (.iJ ks) (ke 1 s)&&(e.plain&&lZ sk e (ke 0 s))
 |.setAttr o x e,s=>(x.ok&&e.known)&&(lZ sk o (dR 0 (ke 1 s))&&lZ sk e (ke 0 s))
 |.cG o i e,s=>e.plain&&(lZ sk o (dR 0 (ke 1 s))&&(lZ sk i (dR 1 (ke 1 s))&&lZ sk e (ke 0 s)))
 |.Lq i op e,s=>(op.rQ&&(sk.N i (Ae (ke 1 s))&&fX (Ae (ke 1 s))))&&lZ sk e (ke 0 s)
 |.qx o x op e,s=>(x.ok&&op.rQ)&&(lZ sk o (dR 0 (ke 1 s))&&lZ sk e (ke 0 s))
 |.rD o i op e,s=>(i.known&&op.rQ)&&(lZ sk o (dR 0 (ke 1 s))&&(lZ sk i (dR 1 (ke 1 s))&&lZ sk e (ke 0 s)))
 |.cO c t e,s=>lZ sk c (ke 0 s)&&(GU sk t (kb 0 s)&&GU sk e (kb 1 s))
 |.iH t it body _,s=>(um (ig it (ke 0 s))&&lZ sk it (ke 0 s))&&(sk.T t (ke 1 s)&&GU sk body (kb 0 s))
 |.rR c body _,s=>lZ sk c (ke 0 s)&&GU sk body (kb 0 s)
 |.JX i e h,s=>(!sk.q&&(h.some&&sk.gl "ConfRefused"))&&((sk.N i (Ae (ke 1 (FW (kb 0 s))))&&e.CA)&&(lZ sk e (ke 0 (FW (kb 0 s)))&&GU {sk with q:=true} h (kb 1 s)))
noncomputable def GU(sk:Sk):Ss→List S1→Bool
 |.zn,_=>true
 |.zc s ss,l=>okS sk s (FW l)&&GU sk ss l.tail
end
structure Un(G:Bx→Prop)(c:Cx)(sk:Sk):Prop where
 ok:c.Ok
 on:c.On sk
 g:G c.b
 xf:XF c.b.P
 Cv:sk.q=false→c.b.A.handled=none
 inj:(c.nm.map (·.2)).Nodup
 top:∃outer L,c.b.l=c.env::outer∧c.env.frame=some L
structure BP(C:Cl)(G:Bx→Prop):Prop where
 ex:Pq C G
 lp:∀t body bf env v m Q X,C.lp t body bf env v m Q X→∀(c:Cx) (sk:Sk) ps,Un G c sk→(sk.T t (ke 1 ps)&&GU sk body (kb 0 ps))=true→∀ω pv,ω.m=m→c.St env ω→VR ω v pv→vg c t (ke 1 ps) (Bu body (kb 0 ps)) ω pv Q
 wh:∀e body bf env m Q X,C.wh e body bf env m Q X→∀(c:Cx) (sk:Sk) ps,Un G c sk→(lZ sk e (ke 0 ps)&&GU sk body (kb 0 ps))=true→∀ω,ω.m=m→c.St env ω→Bf c (ig e (ke 0 ps)) (Bu body (kb 0 ps)) ω Q
 more:∀(b:Bx) x o vs,G b→b.B x=none→o.data=.fields vs→vs[2]? =some .none→G (b.more x o)
section
variable{G:Bx→Prop}{C:Cl}{c:Cx}{sk:Sk}
theorem Un.N(u:Un G c sk){i:Nat}{x:Sv}(h:sk.N i x=true):Aj c.env.scope.names c.nm (c.nm.map (·.1)) i x=true:=by rw[u.on.names,u.on.nm];exact h
theorem Un.T(u:Un G c sk){t:nO}{x:Su}(h:sk.T t x=true):zZ c.env.scope.names c.nm (c.nm.map (·.1)) t x=true:=by rw[u.on.names,u.on.nm];exact h
theorem Un.ex(u:Un G c sk)(H:BP C G){e:E}{pe:Su}(h:lZ sk e pe=true)(aa:List V):Ev c aa (ig e pe) (rE C aa e):=(AH H.ex e c sk pe u.g u.ok u.on h aa).1
theorem Un.tr(u:Un G c sk)(H:BP C G){e:E}{pe:Su}(h:lZ sk e pe=true)(aa:List V):Tr c aa (ig e pe) (dS (rE C aa e)):=(AH H.ex e c sk pe u.g u.ok u.on h aa).2
theorem Un.more(u:Un G c sk)(H:BP C G){a:So}{oe:SK}{vs:Array Value}(hx:c.b.B a=none)(hd:oe.data=.fields vs)(h2:vs[2]? =some .none):Un G (c.more a oe) {sk with q:=true}:=
 ⟨u.ok.more hx hd h2,⟨u.on.names,u.on.nm,rfl⟩,H.more _ _ _ _ u.g hx hd h2,u.xf,λz=>gg z.symm,u.inj,u.top⟩
theorem aeM{t:nO}{target iter:Su}{pb:List S1}{pos:SE}{RL:List V→Sc→ai→K V}{L:List V→V→Sc→ai→KF→Prop}(K8:um iter=true)(hit:∀aa,Ev c aa iter (RL aa))
  (hl:∀aa ω v pv sc k,c.St aa ω→VR ω v pv→L aa v sc ω.m k→vg c t target pb ω pv (λf m=> ∃sc,k f sc m)):Ex c (.For (zX t target) iter pb [] pos) (λaa sc m k kx=>RL aa sc m (λv sc m=>L aa v sc m k) kx):= λaa sc ω st Q X w=>
 wpAny_For (hs:= λx=>oG K8 _ x) ((hit aa sc ω st).jk (f:= λv sc m k _=>L aa v sc m k) st w λω₁ v gU pv cj L₁ r₁ w₁=>w₁.elim λk kx h hk _=>hl aa ω₁ v pv gU k cj r₁ h _ _ λf m' ⟨sc,hf⟩=>hk f sc m' hf)
theorem Ni(H:BP C G)(u:Un G c sk){t:nO}{body:Ss}{bf:List Nat}{aa:List V}{ω:Wd}{v:V}{pv:Value}{sc:Sc}{k:KF}{ps:S1}(h:(sk.T t (ke 1 ps)&&GU sk body (kb 0 ps))=true)(hb:Ls c (Bu body (kb 0 ps)) (rX C body))(st:c.St aa ω)(r:VR ω v pv)
  (hk:Mx (C.lp t body bf aa v ω.m) sc (λsc=>ask An.toL (aO v ω.m) sc λl sc=>Od (λx env m=>nA t x env m) (λm'=>aO v m'=some l) (λ_=>inferInstance) (λenv sc m k=>rX C body env sc m k λ_=>False) bf k l aa sc ω.m) k λ_=>False):
  vg c t (ke 1 ps) (Bu body (kb 0 ps)) ω pv (λf m=> ∃sc,k f sc m):=by
 rcases IP hk with⟨sc,h'⟩|⟨Q,X,h',hq,_⟩
 ·obtain⟨bD,wH,hi,h'⟩:=uL h'
  exact E1 (body:= λenv sc m k=>rX C body env sc m k λ_=>False) (bf:=bf) (J:=Od (λx env m=>nA t x env m) (λm'=>aO v m'=some bD) (λ_=>inferInstance) (λenv sc m k=>rX C body env sc m k λ_=>False) bf k) (ret:= λx sc m=>k (.ret x) sc m) u.ok u.inj (u.T (Sn.mp h).1) (λaa sc ω st=>(hb aa sc ω st).nox)
   st r hi h' (λx l env sc m h=>⟨sc,h⟩) (λ_ _ _ _=> .inl) (λx sc m h=>⟨sc,h⟩) λenv sc m h=>⟨sc,h⟩
 ·exact(H.lp _ _ _ _ _ _ _ _ h' c sk ps u h ω pv rfl st r).bg λf m=>hq f m
theorem OD(H:BP C G)(u:Un G c sk){e:E}{body:Ss}{bf:List Nat}{ps:S1}{pos:SE}(h:(lZ sk e (ke 0 ps)&&GU sk body (kb 0 ps))=true):Ex c (.While (ig e (ke 0 ps)) (Bu body (kb 0 ps)) [] pos) (λaa sc m k _=>Mx (C.wh e body bf aa m) sc (λ_=>False) k λ_=>False):= λaa sc ω st Q X w=>
 wpAny_While (w.elim λk kx hp hk _=>by
  rcases IP hp with⟨_,h'⟩|⟨Q',X',h',hq,_⟩
  ·exact h'.elim
  ·exact H.wh _ _ _ _ _ _ _ h' c sk ps u h ω rfl st _ λf m' hf=>(hq f m' hf).elim λsc hf=>hk f sc m' hf)
end
end
section
abbrev ajk(G:Bx→Prop)(C:Cl)(st:S):Prop:= ∀c sk ps,Un G c sk→okS sk st ps=true→Ex c (unS st ps) (rS C st)
abbrev ahM(G:Bx→Prop)(C:Cl)(ss:Ss):Prop:= ∀c sk l,Un G c sk→GU sk ss l=true→Ls c (Bu ss l) (rX C ss)
section
variable{G:Bx→Prop}{C:Cl}{c:Cx}{sk:Sk}
theorem Fx(H:BP C G)(u:Un G c sk){i:Nat}{e:E}{ps:S1}(h:okS sk (.assign i e) ps=true):Ex c (unS (.assign i e) ps) (rS C (.assign i e)):=by
 obtain⟨h1,h⟩:=Sn.mp h;have h3:=h;rcases aaI e with hp|⟨t,it,cs,el,rfl⟩|rfl
 ·exact Ao u.ok u.inj (u.N h1) (λline=>BA hp _ _ _) (u.ex H h3)
 rotate_left
 ·exactλ_ _ _ _ _ _ w=>w.no
 ·obtain⟨h4,h⟩:=Sn.mp h3
  obtain⟨h5,h6⟩:=Sn.mp h4;exact zS (L:= λaa v sc m k=>E6 (C.cp t cs el aa v) m sc (λsc=>Pf t aa (λenv sc m k _=>rT C env cs sc m k) (λenv=>rE C env el) v m k sc) k λ_=>False) u.ok u.inj (u.N h1) (Ck u.on (Sn.mp h).1).1 h5 (u.ex H h6) λaa ω v pv sc k st r hk=>A8 H.ex u.g u.ok u.on h (LH H.ex cs) (AH H.ex el) st r hk
theorem agZ(H:BP C G)(st:S):ajk G C st:=by
 induction st using S.rec (motive_2:=ahM G C) with
 |stuck=>exactλ_ _ _ _ _ _ _ _ _ _ _ w=>w.no
 |P8=>exactλ_ _ _ _ _=>QL
 |cont=>exactλ_ _ _ _ _=>aaC
 |tV=>exactλ_ _ _ _ _=>G9
 |kh=>exactλc sk ps u h=>J9 u.ok u.xf (u.on.gl h).2
 |ret e=>exactλc sk ps u h=>ae4 (u.ex H h)
 |expr e=>intro c sk ps u h;obtain⟨h1,h2⟩:=Sn.mp h;exact Rb u.ok (λline=>BA h1 _ _ _) (u.ex H h2)
 |assign i e=>exactλc sk ps u h=>Fx H u h
 |unpack ks e=>intro c sk ps u h;obtain⟨h1,h⟩:=Sn.mp h;obtain⟨h2,h3⟩:=Sn.mp h;exact K5 u.ok u.inj (u.T h1) (MF h2) (u.ex H h3)
 |setAttr o x e=>
  intro c sk ps u h;obtain⟨h1,h⟩:=Sn.mp h;obtain⟨h2,h3⟩:=Sn.mp h1;obtain⟨h4,h5⟩:=Sn.mp h;exact Hf u.ok h2 (aak h3 _ _ _ _) (u.ex H h4) (u.ex H h5)
 |cG o i e=>
  intro c sk ps u h;obtain⟨h1,h⟩:=Sn.mp h;obtain⟨h2,h⟩:=Sn.mp h;obtain⟨h3,h4⟩:=Sn.mp h;exact KG u.ok (MF h1) (u.ex H h2) (u.ex H h3) (u.ex H h4)
 |Lq i op e=>
  intro c sk ps u h;obtain⟨h1,h2⟩:=Sn.mp h;obtain⟨h3,h⟩:=Sn.mp h1;obtain⟨h4,h5⟩:=Sn.mp h;exact ado u.ok u.inj h3 (u.N h4) h5 (u.ex H h2)
 |qx o x op e=>
  intro c sk ps u h;obtain⟨h1,h⟩:=Sn.mp h;obtain⟨h2,h3⟩:=Sn.mp h1;obtain⟨h4,h5⟩:=Sn.mp h;exact FO u.ok h2 h3 (u.ex H h4) (u.ex H h5)
 |rD o i op e=>
  intro c sk ps u h;obtain⟨h1,h⟩:=Sn.mp h;obtain⟨h2,h3⟩:=Sn.mp h1;obtain⟨h4,h⟩:=Sn.mp h;obtain⟨h5,h6⟩:=Sn.mp h;exact J7 u.ok h3 (yJ h2) (u.ex H h4) (u.ex H h5) (u.ex H h6)
 |cO q t e ht he=>intro c sk ps u h;obtain⟨h1,h⟩:=Sn.mp h;obtain⟨h2,h3⟩:=Sn.mp h;exact af4 (u.tr H h1) (ht c sk _ u h2) (he c sk _ u h3)
 |iH t it body bf hb=>
  intro c sk ps u h;obtain⟨h1,h⟩:=Sn.mp h;obtain⟨h2,h3⟩:=Sn.mp h1;exact aeM h2 (u.ex H h3) λaa ω v pv sc k st r hk=>Ni H u h (hb c sk _ u (Sn.mp h).2) st r hk
 |rR q body bf hb=>exactλc sk ps u h=>OD H u h
 |JX i e hd hh=>
  intro c sk ps u h;obtain⟨h1,h⟩:=Sn.mp h;obtain⟨h2,h3⟩:=Sn.mp h1;obtain⟨h4,h5⟩:=Sn.mp h3;obtain⟨h6,h⟩:=Sn.mp h;obtain⟨h7,h8⟩:=Sn.mp h6;obtain⟨h9,h10⟩:=Sn.mp h;obtain⟨outer,L,t1,t2⟩:=u.top;cases hd with
  |zn=>exact gg h4
  |zc s ss=>exact ab2 u.ok u.xf (u.Cv ((Wb _).mp h2)) t1 t2 u.inj (u.N h7) (λline=>BA h8 _ _ _) (u.ex H h9) (u.on.gl h5).2 λa oe vs hx hd h2=>hh _ _ _ (u.more H hx hd h2) h10
 |zn=>exactλ_ _ _ _ _=>HT
 |zc s ss hs hss=>intro c sk l u h;obtain⟨h1,h2⟩:=Sn.mp h;exact Dc (hs c sk _ u h1) (hss c sk _ u h2)
theorem MK(H:BP C G)(ss:Ss):ahM G C ss:=by
 induction ss using Ss.rec (motive_1:= λ_=>True) with
 |zn=>exactλ_ _ _ _ _=>HT
 |zc s ss _ hss=>intro c sk l u h;obtain⟨h1,h2⟩:=Sn.mp h;exact Dc (agZ H s c sk _ u h1) (hss c sk _ u h2)
 |_=>trivial
end
end
section
noncomputable def s8:Nat→List V→List V→List V
 |_,[],aa=>aa
 |i,w::ws,aa=>s8 (i+1) ws (aa.set i w)
theorem RP(pre:List V)(k:Nat)(w:V):(pre++SR (k+1) V.af).set pre.length w=(pre++[w])++SR k V.af:=by rw[List.set_append_right _ _ (SQ _),Wi,List.replicate_succ,Ud];rfl
theorem DV(ws:List V):∀(pre:List V) (k:Nat),s8 pre.length ws (pre++SR (ws.length+k) .af)=pre++ws++SR k .af:=by
 induction ws with
 |nil=>exactλpre k=>by rw[UU,List.length_nil,Uq];rfl
 |cons w ws ih=>
  intro pre k;have q:=ih (pre++[w]) k;rw[S4,Ud pre [w] ws] at q;show s8 (pre.length+1) ws ((pre++SR (ws.length+1+k) V.af).set pre.length w)=_;rw[Vg,RP];exact q
noncomputable def x6(ω:Wd)(names:List (Sv×S5))(nm:List (Sv×Nat)):Nat→List (Sv×Value)→List V→Prop
 |_,[],ws=>ws=[]
 |i,p::r,ws=>match ws with
  |[]=>False
  |v::ws=>(names.lookup p.1=some .local∨names.lookup p.1=some .cell)∧nm.lookup p.1=some i∧VR ω v p.2∧x6 ω names nm (i+1) r ws
theorem x6.bg{ω ω':Wd}{names:List (Sv×S5)}{nm:List (Sv×Nat)}(L:Le ω ω'){r:List (Sv×Value)}:∀{i:Nat} {ws:List V},x6 ω names nm i r ws→x6 ω' names nm i r ws:=by
 induction r with
 |nil=>exactλh=>h
 |cons p r ih=>
  intro i ws h;cases ws with
  |nil=>exact h
  |cons v ws=>exact⟨h.1,h.2.1,h.2.2.1.bg L,ih h.2.2.2⟩
section
variable{c:Cx}{X:Value→Sl→Prop}
theorem K1(f:Sv×Value→PUnit→SJ (ForInStep PUnit))(hf:∀n v u,f (n,v) u=(do YZ c.env n v;pure (.yield ⟨⟩)))(hk:c.env.scope.kind=.function)(inj:(c.nm.map (·.2)).Nodup):
  ∀(binds:List (Sv×Value)) (ws:List V) (i:Nat) (aa:List V) (ω:Wd) (Q:PUnit→Sl→Prop),aX c aa ω→x6 ω c.env.scope.names c.nm i binds ws→
   (∀s',nJ c.W ω.s s'→aX c (s8 i ws aa) (ω.at s')→Q ⟨⟩ s')→Sq c.b.P.M c.b.A (forIn binds ⟨⟩ f) Q X ω.s:= λbinds=>by
 induction binds with
 |nil=>
  intro ws i aa ω Q F b h;subst b;rw[Y4];exact Sx (h ω.s (.of ⟨λ_ _ e=>e,rfl⟩) F)
 |cons p r ih=>
  intro ws i aa ω Q F b h;cases ws with
  |nil=>exact b.elim
  |cons v ws=>
   obtain⟨b1,b2,b4,b5⟩:=b;rw[VL,show f p _=_ from hf p.1 p.2 _];refine Sm (Sm (nu hk b1 b2 (ZR (f:=(·.1)) (mem_of_lookup b2)) inj F b4 λs' kp F'=>Sx ?_));exact ih ws (i+1) _ (ω.at s') Q F' (b5.bg (F.le kp)) λFo kp' F''=>h Fo (kp.trans kp') F''
end
noncomputable def z7(ω:Wd)(fd:UW)(a:So):SY:=newEnv fd.scope ω.h.objs.size fd.globals (Td (ω.h.objs.size+1) fd.scope.names []) (fd.qualname++".<locals>.") (some a) fd.code none fd.builtins
noncomputable def inC(b:Bx)(ω:Wd)(fd:UW)(a:So)(nm:List (Sv×Nat))(q:Bool):Cx:=⟨{b with l:=z7 ω fd a::b.l},z7 ω fd a,nm,q⟩
section
variable{b:Bx}{ω:Wd}{fd:UW}{a:So}{nm:List (Sv×Nat)}{q:Bool}
noncomputable def bare(h:S2)(names:List (Sv×S5)):S2:=pushCells (h.push {cls:= .type "frame",data:= .dict #[]}) names
theorem Ih(h:S2)(names:List (Sv×S5)):(∀b o,h.get? b=some o→(bare h names).get? b=some o)∧(∀x a,(x,a)∈Td (h.objs.size+1) names []→(bare h names).IsCell a none∧h.objs.size+1≤a)∧(Td (h.objs.size+1) names []).Pairwise λx y=>x.2≠y.2:=by
 have ok:=apo names (h.push {cls:= .type "frame",data:= .dict #[]}) (h.objs.size+1) [] ⟨λ_ _ hm=>(nomatch hm),WZ⟩ (by rw[Uj];exact SQ _)
 rw[Uj] at ok;exact⟨λb o e=>W2 _ _ b o (S7 _ e),λx a e=>ok.empty x a e,ok.apart⟩
theorem AG(n k:Nat){v:V}{C:Prop}(e:fj (SR n V.af) k=some v):C:=aD e λu e1 e2=>by rw[(List.mem_replicate.mp (List.mem_of_getElem? e1)).2] at e2;exact no e2
theorem Hq(R:b.bY ω)(yg:∀x,fd.scope.names.lookup x≠some .free)(n:Nat):aX (inC b ω fd a nm q) (SR n .af) (ω.at {ω.s with heap:=bare ω.h fd.scope.names}):=by
 obtain⟨h1,h2,h3⟩:=Ih ω.h fd.scope.names;have nf:∀y,ω.h.objs.size≤y→¬ez ω y∧b.B y=none:= λy h=>⟨R.j6 (Vs h),fQ R.base (Vs h)⟩;refine⟨⟨_,(apq ω.h (.type "frame")).keeps (W2 _ _),λx k v _ _ d=>AG _ _ d⟩,λx hx=> ?_,nf _ (SQ _),λx y e=> ?_,λx y z e e'=>aps h3 (mem_of_lookup e) (mem_of_lookup e')⟩
 ·rcases hx with hx|hx
  ·obtain⟨y,hy⟩:=q9 fd.scope.names (ω.h.objs.size+1) (mem_of_lookup hx)
   obtain⟨z,hz⟩:=jI hy;exact⟨z,none,hz,(h2 x z (mem_of_lookup hz)).1,λk v _ d=>AG _ _ d⟩
  ·exact absurd hx (yg x)
 ·obtain⟨c1,c2⟩:=h2 x y (mem_of_lookup e)
  obtain⟨p1,p2⟩:=nf y (Zg c2);exact⟨p1,p2,Vt c2,none,c1⟩
theorem enter{binds:List (Sv×Value)}{ws:List V}{k:Nat}{Q:SY→Sl→Prop}{X:Value→Sl→Prop}(hk:fd.scope.kind=.function)(inj:(nm.map (·.2)).Nodup)(yg:∀x,fd.scope.names.lookup x≠some .free)(R:b.bY ω)(bd:x6 ω fd.scope.names nm 0 binds ws)
  (hQ:∀s',cZ ω.s s'→aX (inC b ω fd a nm q) (ws++SR k .af) (ω.at s')→(∃o,s'.heap.get? ω.h.objs.size=some o∧P5 o∧o.cls=.type "frame")→(∀y,(inC b ω fd a nm q).W y→ω.h.get? y=none)→Q (z7 ω fd a) s'):
  Sq b.P.M b.A (WY fd.scope fd.globals [] binds (fd.qualname++".<locals>.") (some a) fd.code none fd.builtins) Q X ω.s:=by
 simp only[WY,Option.isSome_none,Xv,if_false];refine Sm (Y5 ?_);refine Sm (apn _ (λname kind cells=>by cases hkc:kind==Vw<;>simp[hkc]) _ _ _ _ ?_)
 rw[show({ω.s with heap:=ω.s.heap.push {cls:= .type "frame",data:= .dict #[]}}:Sl).heap.objs.size=ω.h.objs.size+1 from Uj ..];obtain⟨h1,h2,h3⟩:=Ih ω.h fd.scope.names;have G:cZ ω.s {ω.s with heap:=bare ω.h fd.scope.names}:= .of h1;have F₀:aX (inC b ω fd a nm q) (SR (ws.length+k) .af) _:=Hq R yg (ws.length+k);have wn:∀y,(inC b ω fd a nm q).W y→ω.h.get? y=none:= λy w=>by
  refine Vs ?_;rcases w with rfl|⟨x,_,_,e⟩
  ·exact SQ _
  ·exact Zg (h2 x y (mem_of_lookup e)).2
 refine Sm (K1 (c:=inC b ω fd a nm q) (ω:=ω.at {ω.s with heap:=bare ω.h fd.scope.names}) _ (λ_ _ _=>rfl) hk inj binds ws 0 _ _ F₀ (bd.bg G.le) λs' kp F'=>Sx ?_);have e:=DV ws [] k;rw[XT,XT] at e;rw[show s8 0 ws _=_ from e] at F';refine hQ s' ⟨λy o e=>kp.keep y o (h1 y o e) λw=>no ((wn y w).symm.trans e),kp.rest⟩ F' ?_ wn;obtain⟨o',e',d',c'⟩:=kp.cls ω.h.objs.size {cls:= .type "frame",data:= .dict #[]} (.inl rfl) (W2 _ _ _ _ (Tt _ rfl)) ⟨_,_,rfl⟩;exact⟨o',e',d',c'⟩
end
end
section
mutual
theorem VR.small{ω ω':Wd}(hl:∀a,a<ω.n→ω'.σ.r a=ω.σ.r a):∀{v:V} {pv pv₀:Value},VR ω v pv₀→VR ω' v pv→VR (ω.at ω'.s) v pv
 |.af,_,_,_,h=>h
 |.none,_,_,_,h=>h
 |.bool _,_,_,_,h=>h
 |.int _,_,_,_,h=>h
 |.str _,_,_,_,h=>h
 |.bytes _,_,_,_,h=>h
 |.bJ _,_,_,⟨_,_,_,_,r₀⟩,⟨a,xs,e,t,r⟩=>⟨a,xs,e,t,eF.small hl r₀ r⟩
 |.range _ _,_,_,_,h=>h
 |.ref a,_,_,h₀,h=>⟨h₀.1,hl a h₀.1▸h.2⟩
theorem eF.small{ω ω':Wd}(hl:∀a,a<ω.n→ω'.σ.r a=ω.σ.r a):∀{l:List V} {ps ps₀:List Value},eF ω l ps₀→eF ω' l ps→eF (ω.at ω'.s) l ps
 |[],_,_,_,h=>h
 |_::_,[],_,_,h=>h
 |_::_,_::_,[],h₀,_=>h₀.elim
 |_::_,_::_,_::_,h₀,h=>⟨VR.small hl h₀.1 h.1,eF.small hl h₀.2 h.2⟩
end
mutual
theorem VR.pure{ω ω':Wd}:∀{v:V} {pv:Value},v.pure=true→VR ω' v pv→VR (ω.at ω'.s) v pv
 |.af,_,_,h=>h
 |.none,_,_,h=>h
 |.bool _,_,_,h=>h
 |.int _,_,_,h=>h
 |.str _,_,_,h=>h
 |.bytes _,_,_,h=>h
 |.bJ _,_,q,⟨a,xs,e,t,r⟩=>⟨a,xs,e,t,eF.pure q r⟩
 |.range _ _,_,_,h=>h
 |.ref _,_,q,_=>gg q
theorem eF.pure{ω ω':Wd}:∀{l:List V} {ps:List Value},V.jm l=true→eF ω' l ps→eF (ω.at ω'.s) l ps
 |[],_,_,h=>h
 |_::_,[],_,h=>h
 |_::_,_::_,q,h=>⟨VR.pure (Sn.mp q).1 h.1,eF.pure (Sn.mp q).2 h.2⟩
end
section
variable{P:PF}{B:Base}{ω ω':Wd}
theorem m6.small{T:Type}{dec:T→V→Prop}(hl:∀a,a<ω.n→ω'.σ.r a=ω.σ.r a){es:List (V×V)}:∀{ps ps₀:List (T×Value)},m6 ω dec es ps₀→m6 ω' dec es ps→m6 (ω.at ω'.s) dec es ps:=by
 induction es with
 |nil=>exactλ_ h=>h
 |cons e es ih=>
  intro ps ps₀ h₀ h;cases ps with
  |nil=>exact h
  |cons p ps=>
   cases ps₀ with
   |nil=>exact h₀.elim
   |cons q qs=>exact⟨h.1,h₀.2.1.small hl h.2.1,ih h₀.2.2 h.2.2⟩
theorem nK.small(hl:∀a,a<ω.n→ω'.σ.r a=ω.σ.r a){x:Option V}{px px₀:Option Value}(h₀:nK ω x px₀)(h:nK ω' x px):nK (ω.at ω'.s) x px:=match x,h₀,h with
 |Vb,_,h=>h
 |YF _,⟨_,_,r₀⟩,⟨pv,e,r⟩=>⟨pv,e,r₀.small hl r⟩
theorem ko.small{a:Nat}{o:O}(hl:∀a,a<ω.n→ω'.σ.r a=ω.σ.r a)(e1:ω'.σ.r a=ω.σ.r a)(e2:ω'.σ.d a=ω.σ.d a)(y:ko P ω a o)(x:ko P ω' a o):ko P (ω.at ω'.s) a o:=by
 cases o with
 |list l=>
  obtain⟨_,⟨_,_,p3⟩,_⟩:=y;obtain⟨q1,⟨xs,q2,q3⟩,q4⟩:=x;exact⟨e2.symm.trans (q1.trans e1),⟨xs,e1▸q2,p3.small hl q3⟩,q4⟩
 |bare l=>
  obtain⟨_,⟨_,_,p3⟩,_⟩:=y;obtain⟨q1,⟨xs,q2,q3⟩,q4,q5⟩:=x;exact⟨e2.symm.trans (q1.trans e1),⟨xs,e1▸q2,p3.small hl q3⟩,q4,e1▸q5⟩
 |dict k es=>
  obtain⟨_,⟨_,_,p3⟩,_⟩:=y;obtain⟨q1,⟨kvs,q2,q3⟩,q4⟩:=x;exact⟨e2.symm.trans (q1.trans e1),⟨kvs,e1▸q2,p3.small hl q3⟩,q4⟩
 |inst c fs=>
  obtain⟨_,⟨uU,e',p⟩,_⟩:=y;obtain⟨q1,⟨iL,e,q⟩,q6⟩:=x;refine⟨?_,⟨iL,e,?_,q.keys,q.size,λz hz=>(p.val z hz).small hl (q.val z hz)⟩,q6⟩
  ·rw[e1,e2] at q1;exact q1
  ·have g:=q.get
   rw[e2] at g;exact g
 |aM=>trivial
theorem bY.small(R:bY P B ω)(R':bY P B ω')(E:fZ W0 ω ω')(e:ω'.m.take ω.m.length=ω.m):bY P B (ω.at ω'.s)∧fZ W0 ω (ω.at ω'.s):=by
 have get:∀a o,ω.m.get a=some o→ω'.m.get a=some o:= λa o q=>by have q':(apS ω.m.length ω'.m)[a]? =some o:=e.symm▸q;rw[List.getElem?_take,aG (ai.fL q)] at q';exact q'
 exact⟨⟨R'.base,λa o q=>(R.obj a o q).small (λa ha=>(E.loc a ha).1) (E.loc a (ai.fL q)).1 (E.loc a (ai.fL q)).2 (R'.obj a o (get a o q)),R.apart,R.fresh⟩,
  ⟨SQ _,λ_ _=>rfl,λ_ _=>⟨rfl,rfl⟩,E.keep,λ_=> .none,λa h1 h2=>absurd h2 (TL.mpr h1),λ_ _ z=>z.elim,E.rest⟩⟩
theorem fZ.aay{W:So→Prop}{s₀:Sl}(G:cZ ω.s s₀)(hw:∀b,W b→ω.h.get? b=none)(E:fZ W (ω.at s₀) ω'):fZ W0 ω ω' where
 len:=E.len
 live:=E.live
 loc:=E.loc
 keep b o e f _:=E.keep b o (G.keep b o e) f λw=>no ((hw b w).symm.trans e)
 soft _:= .none
 new a h1 h2:=⟨iV G.keep (E.new a h1 h2).1,iV G.keep (E.new a h1 h2).2⟩
 cls _ _ z:=z.elim
 rest:=G.rest.trans E.rest
theorem fC.aay{b b':Bx}{W:So→Prop}{s₀:Sl}{x:So}(hP:b'.P=b.P)(hB:b'.B=b.B)(G:cZ ω.s s₀)(hw:∀b,W b→ω.h.get? b=none)(F:fC b W (ω.at s₀) ω' x):fC b' W0 ω ω' x:=by obtain⟨P',B',l',A'⟩:=b';cases hP;cases hB;exact⟨F.bH,iV G.keep F.new,F.exc,F.ext.aay G hw,λT hh=>iV G.keep (F.tb T hh)⟩
end
theorem uI{b:Bx}{ω ω':Wd}{gc:Gc}{f:Fl}{pv:Value}{sc:Sc}{k:KV}{Q:Value→Sl→Prop}(R:b.bY ω)(R':b.bY ω')(E:fZ W0 ω ω')(r:VR ω' (C8 f) pv)(h:FA gc ω.m k f sc ω'.m)(hk:∀v sc m',k v sc m'→jd b W0 ω VR Q v m'):Q pv ω'.s:=by
 delta FA at h
 cases gc with
 |keep=>exact hk _ _ _ h ω' rfl R' E pv r
 |bS=>
  obtain⟨⟨c1,c2⟩,fz,h⟩:=lP h;obtain⟨R₁,E₁⟩:=R.small R' E c2;exact hk _ _ _ h (ω.at ω'.s) rfl R₁ E₁ pv (VR.pure c1 r)
 |fresh=>
  obtain⟨a,gU,e1,h⟩:=eK h;obtain⟨l,wH,e2,h⟩:=eK h;obtain⟨⟨c1,c2,c3⟩,fz,h⟩:=lP h;obtain⟨R₁,E₁⟩:=R.small R' E c3;obtain⟨ha,rfl⟩:=r.ref e1;have hl:=ai.fG e2;obtain⟨d1,⟨xs,d2,d3⟩,d4⟩:=R'.obj a _ hl;have fr:=R'.fresh a (ai.dg hl rfl);have nw:=E.new a c2 ha;have nf:¬ez (ω.at ω'.s) (ω'.σ.r a):= λ⟨y,hy,z⟩=>by have ly:=ai.ef hy;obtain⟨l1,l2⟩:=E.loc y ly;rw[show(ω.at ω'.s).σ.r y=_ from l1.symm,show(ω.at ω'.s).σ.d y=_ from l2.symm] at z;have ap:=R'.apart a y (ai.dg hl rfl) ((E.live y ly).trans hy) (λq=>by subst q;exact TL.mpr c2 ly);exact z.elim ap.1 ap.2.1
  have R₂:=bY.add (ω:=ω) (s':=ω'.s) (o:= .list l) R₁ nf nf fr.1 fr.1 (ko.list (ω:=ω.at ω'.s) d2 (eF.pure c1 d3) d4 ⟨λ_ _ e=>e,rfl⟩);have E₂:=fZ.add (ω:=ω) (s':=ω'.s) (o:= .list l) E₁ nw.1 nw.1;exact hk _ _ _ h (ω.add (.list l) (ω'.σ.r a) (ω'.σ.r a) ω'.s) rfl R₂ E₂ _ ⟨SX (T3 _) (Te Wd.tW.symm),bk T7 (Loc.add_r ω.σ ω.n _ _).symm⟩
end
noncomputable def fdOf:Option SK→UW
 |some o=>(match o.data with
  |.func fd=>fd
  |_=>default)
 |none=>default
noncomputable def aae:Option SK→Bool
 |some o=>(match o.data with
  |.func _=>true
  |_=>false)
 |none=>false
noncomputable def bodyOf(fd:UW):List S1:=match fd.body with
 |.stmts b=>b
 |_=>[]
noncomputable def Cm(fd:UW):Bool:=match fd.body with
 |.stmts _=>true
 |_=>false
theorem Qp{x:Option SK}(h:aae x=true):∃o,x=some o∧o.data=.func (fdOf x):=by
 cases x with
 |none=>exact gg h
 |some o=>
  refine⟨o,rfl,?_⟩;obtain⟨c,d,dt,sl⟩:=o;cases dt<;>first|rfl|exact gg h
theorem JY{fd:UW}(h:Cm fd=true):fd.body=.stmts (bodyOf fd):=by unfold Cm at h;unfold bodyOf;cases q:fd.body<;>rw[q] at h<;>first|rfl|exact gg h
noncomputable abbrev PF.fd(P:PF)(f:Fn):UW:=fdOf (P.K.lookup (P.fa f))
noncomputable abbrev D9(fd:UW):List Sv:=fd.params.args.map (·.arg)
noncomputable def Cs(f:Fn):List (Sv×Nat):=f.nm.map λp=>(SH p.1,p.2)
structure FnF(P:PF)(f:Fn):Prop where
 fn:aae (P.K.lookup (P.fa f))=true
 body:Cm (P.fd f)=true
 closure:(P.fd f).closure=[]
 globals:(P.fd f).globals=TG
 builtins:(P.fd f).builtins=builtinsNs
 co:(P.fd f).scope.isCoroutine=false
 gen:(P.fd f).scope.isGenerator=false
 kind:(P.fd f).scope.kind=.function
 code:codeIn P.K (P.fd f).code (P.fd f).qualname=true
 bind:∀f7,f7.length=(prog f).nargs→Xc (P.fd f) ⟨f7,[]⟩=pure ((D9 (P.fd f)).zip f7)
 len:(D9 (P.fd f)).length=(prog f).nargs
 inj:((Cs f).map (·.2)).Nodup
 yg:∀x,(P.fd f).scope.names.lookup x≠some .free
 params:∀i x,(D9 (P.fd f))[i]? =some x→((P.fd f).scope.names.lookup x=some .local∨(P.fd f).scope.names.lookup x=some .cell)∧(Cs f).lookup x=some i
 ok:GU ⟨(P.fd f).scope.names,Cs f,f.quiet⟩ (prog f).body (bodyOf (P.fd f))=true
 un:Bu (prog f).body (bodyOf (P.fd f))=bodyOf (P.fd f)
structure zw(b:Bx):Prop where
 ok:BOk b
 xf:XF b.P
 ff:∀f:Fn,f.ok=true→FnF b.P f
def wL(n:Nat)(A:S3):Prop:=A.depth+3*n<XY∧A.units+20*n+1000<TJ
def Ro(n:Nat)(A:S3):Prop:=A.depth+3*n+1<XY∧A.units+20*n+10+1000<TJ
abbrev GG(n:Nat)(b:Bx):Prop:=zw b∧Ro n b.A
noncomputable def aE(n:Nat)(f:Fn)(vs:List V)(m:ai):tU V:= λQ X=> ∀b,zw b→wL n b.A→kj b f.quiet f vs m (asK Q X)
noncomputable def pq(n:Nat)(t:nO)(cs:Es)(el:E)(env:List V)(v:V)(m:ai):tU V:= λQ _=> ∀(c:Cx) (sk:Sk) pe,GG n c.b→c.Ok→c.On sk→okC sk t cs el pe=true→∀ω pv,ω.m=m→c.St env ω→VR ω v pv→mZ c (i6 pe) t (dR 1 pe) (ig el (dR 0 pe)) (iI cs ((e8 pe).drop 3)) ω v pv λys m=>Q (.ref m.next) (m.push (.list ys))
noncomputable def rO(n:Nat)(t:nO)(body:Ss)(bf:List Nat)(env:List V)(v:V)(m:ai):tU Fl:= λQ _=> ∀(c:Cx) (sk:Sk) ps,Un (GG n) c sk→(sk.T t (ke 1 ps)&&GU sk body (kb 0 ps))=true→∀ω pv,ω.m=m→c.St env ω→VR ω v pv→vg c t (ke 1 ps) (Bu body (kb 0 ps)) ω pv Q
noncomputable def WhC(n:Nat)(e:E)(body:Ss)(bf:List Nat)(env:List V)(m:ai):tU Fl:= λQ _=> ∀(c:Cx) (sk:Sk) ps,Un (GG n) c sk→(lZ sk e (ke 0 ps)&&GU sk body (kb 0 ps))=true→∀ω,ω.m=m→c.St env ω→Bf c (ig e (ke 0 ps)) (Bu body (kb 0 ps)) ω Q
noncomputable abbrev aes(n:Nat)(r:Fn→List V→Sc→ai→KV→KX→Prop):Cl:=⟨aE n,r,pq n,rO n,WhC n⟩
noncomputable def qJ:Nat→Fn→List V→Sc→ai→KV→KX→Prop
 |0=> λ_ _ _ _ _ _=>False
 |n+1=> λf vs sc m k kx=>nR (SA vs.length (prog f).nargs) (rX (aes n (qJ n)) (prog f).body (vs++SR ((prog f).Bg-(prog f).nargs) .af) sc m (FA (prog f).gc m k) kx)
noncomputable abbrev qn(n:Nat):Cl:=aes n (qJ n)
theorem AY(A:S3)(args:Wa):(A.under (.builtin "type.__call__" args)).frames=A.frames∧(A.under (.builtin "type.__call__" args)).depth≤A.depth+1∧(A.under (.builtin "type.__call__" args)).units≤A.units+10∧(A.under (.builtin "type.__call__" args)).handled=A.handled:=by
 have hf:Code.frames (.builtin "type.__call__" args)=0:=by kernel_rfl
 have he:Code.envs (.builtin "type.__call__" args)=[]:=by kernel_rfl
 have hg:Code.isGuard (.builtin "type.__call__" args)=false:=by kernel_rfl
 have hc:Code.isCaller (.builtin "type.__call__" args)=false:=by kernel_rfl
 have hu:Code.cUnits (.builtin "type.__call__" args)=1:=by kernel_rfl
 have hw:Zh (.builtin "type.__call__" args)≤1:=by unfold Zh;rw[hf,hg,hc];cases Code.isCreation (.builtin "type.__call__" args)<;>decide
 unfold Around.under;rw[he,hu];refine⟨rfl,?_,?_,rfl⟩
 ·show _+Zh _≤_
  exact VE hw _
 ·exact VE (by decide) _
theorem zw.new{b:Bx}(g:zw b)(args:Wa):zw (b.new args):=by obtain⟨u1,_,_,u4⟩:=AY b.A args;exact⟨⟨g.ok.fb,by unfold zH;rw[u4];exact g.ok.hd,u1.trans g.ok.fr,g.ok.cf,g.ok.gf⟩,g.xf,g.ff⟩
theorem Ro.room{n:Nat}{A:S3}(r:Ro n A):wL n A:=⟨Nat.lt_of_succ_lt r.1,Sz (W4 (SV _ 10) _) r.2⟩
theorem Ro.new{n:Nat}{b:Bx}(r:Ro n b.A)(args:Wa):wL n (b.new args).A:=by obtain⟨_,u2,u3,_⟩:=AY b.A args;obtain⟨r1,r2⟩:=r;exact(⟨by omega,by omega⟩:wL n (b.A.under (.builtin "type.__call__" args)))
theorem wL.deeper{n:Nat}{A:S3}(r:wL (n+1) A)(env:SY):Ro n (A.deeper env):=by obtain⟨r1,r2⟩:=r;exact⟨by show A.depth+1+3*n+1<_;omega,by show A.units+3+20*n+10+1000<_;omega⟩
theorem DY{C:Cl}{b:Bx}{f:Fn}{vs:List V}{m:ai}{sc:Sc}(h1:∀Q X,C.sp f vs m Q X→kj b f.quiet f vs m (asK Q X))(h2:∀sc,kj b f.quiet f vs m (C.run f vs sc m)):kj b f.quiet f vs m (IA C f vs m sc):= λω f7 e hh R S r Q X w=>w.elim λk kx hp hk hx=>by
 rcases Je hp with⟨sc,h⟩|⟨Q',X',h,a,b⟩
 ·exact h2 sc ω f7 e hh R S r Q X ⟨k,kx,h,hk,hx⟩
 ·exact h1 Q' X' h ω f7 e hh R S r Q X ⟨k,kx,⟨a,b⟩,hk,hx⟩
theorem tw{n:Nat}(h:∀b,zw b→wL n b.A→∀f vs sc m,f.ok=true→kj b f.quiet f vs m (qJ n f vs sc m)):BP (qn n) (GG n) where
 ex:=⟨λb g f vs m sc hf=>⟨DY (λQ X hQ=>hQ b g.1 g.2.room) λsc=>h b g.1 g.2.room f vs sc m hf,λargs=>DY (λQ X hQ=>hQ _ (g.1.new args) (g.2.new args)) λsc=>h _ (g.1.new args) (g.2.new args) f vs sc m hf⟩,λt cs el env v m Q X hQ=>hQ⟩
 lp t body bf env v m Q X hQ:=hQ
 wh e body bf env m Q X hQ:=hQ
 more b x o vs g hx hd h2:=⟨⟨g.1.ok.more hx hd h2,g.1.xf,g.1.ff⟩,g.2⟩
section
theorem Nr{ω:Wd}{names:List (Sv×S5)}{nm:List (Sv×Nat)}{ps:List Sv}:∀{f7:List Value} {vs:List V} (i:Nat),eF ω vs f7→ps.length=f7.length→
  (∀j x,ps[j]? =some x→(names.lookup x=some .local∨names.lookup x=some .cell)∧nm.lookup x=some (i+j))→x6 ω names nm i (ps.zip f7) vs:=by
 induction ps with
 |nil=>
  intro f7 vs i r e k;cases f7 with
  |nil=>cases vs with
   |nil=>exact rfl
   |cons v vs=>exact r.elim
  |cons p ps=>exact nomatch e
 |cons x ps ih=>
  intro f7 vs i r e k;cases f7 with
  |nil=>exact nomatch e
  |cons pv f7=>cases vs with
   |nil=>exact nomatch (show pv::f7=[] from r)
   |cons v vs=>
    obtain⟨k1,k2⟩:=k 0 x rfl;exact⟨k1,k2,r.1,ih (i+1) r.2 (VH e) λj y q=>by have:=k (j+1) y q;rw[UN,Vv 1 j];exact this⟩
section
variable{b:Bx}{ω:Wd}{f:Fn}
noncomputable abbrev zk(b:Bx)(ω:Wd)(f:Fn):Cx:=⟨⟨b.P,b.B,z7 ω (b.P.fd f) (b.P.fa f)::b.l,b.A.deeper (z7 ω (b.P.fd f) (b.P.fa f))⟩,z7 ω (b.P.fd f) (b.P.fa f),Cs f,f.quiet⟩
theorem abS{n:Nat}(g:zw b)(rm:wL (n+1) b.A)(F:FnF b.P f)(hh:b.A.handled=none∨f.quiet=true):Un (GG n) (zk b ω f) ⟨(b.P.fd f).scope.names,Cs f,f.quiet⟩:=by
 have fr:(b.A.deeper (z7 ω (b.P.fd f) (b.P.fa f))).frames=some (z7 ω (b.P.fd f) (b.P.fa f)::b.l):=by show b.A.frames.map _=_;rw[g.ok.fr];rfl
 have bo:BOk (zk b ω f).b:=⟨g.ok.fb,g.ok.hd,fr,g.ok.cf,g.ok.gf⟩;have un:(b.A.deeper (z7 ω (b.P.fd f) (b.P.fa f))).units+1000<TJ:=by refine Sz (W4 ?_ 1000) (rm.deeper (z7 ω (b.P.fd f) (b.P.fa f))).2;exact SG (SV _ _) (SV _ _)
 exact⟨⟨bo,F.kind,F.globals,F.builtins,un,hh⟩,⟨rfl,rfl,rfl⟩,⟨⟨bo,g.xf,g.ff⟩,rm.deeper _⟩,g.xf,λhq=>hh.elim id λz=>gg (hq.symm.trans z),F.inj,b.l,_,rfl,rfl⟩
theorem Ju{n:Nat}(ih:∀b,zw b→wL n b.A→∀f vs sc m,f.ok=true→kj b f.quiet f vs m (qJ n f vs sc m))(g:zw b)(rm:wL (n+1) b.A)(F:FnF b.P f){vs:List V}{sc:Sc}{m:ai}:kj b f.quiet f vs m (qJ (n+1) f vs sc m):= λω f7 e hh R S r Q X w=>by
 subst e;obtain⟨hlen,w⟩:=w.nR (g:= λk kx=>rX (aes n (qJ n)) (prog f).body (vs++SR ((prog f).Bg-(prog f).nargs) .af) sc ω.m (FA (prog f).gc ω.m k) kx);obtain⟨o,f1,f2⟩:=Qp F.fn;have KI:=g.ok.fb.Mn _ R.base;have hpl:f7.length=(prog f).nargs:=r.length.symm.trans (T8 hlen);refine codeAny_call_function (Sz (SV _ _) rm.1) (KI _ _ f1) f2 F.co F.gen (JY F.body) (codeRec_of KI F.code) ?_;rw[F.bind f7 hpl,F.closure];refine Sx (enter (b:={b with A:=b.A.in1}) (nm:=Cs f) (q:=f.quiet) (ws:=vs) (k:=(prog f).Bg-(prog f).nargs) F.kind F.inj F.yg R (Nr 0 r (F.len.trans hpl.symm) λj x e=>by rw[Uq];exact F.params j x e) λs' G FR fo wn=> ?_);have u:=abS (ω:=ω) g rm F hh;have R':=G.bH R;have body:=MK (tw ih) (prog f).body _ _ _ u F.ok;rw[F.un] at body;have FR':aX (zk b ω f) (vs++SR ((prog f).Bg-(prog f).nargs) .af) (ω.at s'):=⟨FR.ns,FR.cell,FR.off,FR.dP,FR.u0⟩;have S':yy (zk b ω f).b (ω.at s'):= λen hen=>by
  rcases SO.mp hen with rfl|hen
  ·exact⟨(λz=>nomatch F.kind.symm.trans z),_,rfl,fo,FR.off.1,FR.off.2⟩
  ·exact(S.ext G.ext) en hen
 refine w.elim λk kx hp hk hx=>⟨g.ok.fb.lim _ R'.base,codeAny_func (body _ sc (ω.at s') ⟨R',FR',S'⟩ _ _ ⟨_,_,hp,λfl fz m' hf ω₁ e₁ R₁ E₁ pf rf=> ?_,λm' h=>⟨(hx m' h).1,λω' x e F'=> ?_⟩⟩)⟩
 ·subst e₁
  have E₂:=E₁.aay G wn;cases fl with
  |next vs=>obtain⟨rfl,_⟩:=rf;exact uI (b:=b) R R₁ E₂ (show VR ω₁ (C8 (.next vs)) .none from rfl) hf hk
  |cont vs=>obtain⟨rfl,_⟩:=rf;exact uI (b:=b) R R₁ E₂ (show VR ω₁ (C8 (.cont vs)) .none from rfl) hf hk
  |ret v=>obtain⟨pv,rfl,rv⟩:=rf;exact uI (b:=b) (pv:=pv) R R₁ E₂ (show VR ω₁ (C8 (.ret v)) pv from rv) hf hk
 ·exact fC.PJ (b:=(zk b ω f).b) rfl u.ok.b.fr R' S' rfl FR'.ws F' λω'' em F''=>(hx m' h).2 ω'' x (em.trans e) (fC.aay (b:=(zk b ω f).b) (b':=b) (W:=(zk b ω f).W) rfl rfl G wn F'')
end
theorem tK(n:Nat):∀b,zw b→wL n b.A→∀f vs sc m,f.ok=true→kj b f.quiet f vs m (qJ n f vs sc m):=by
 induction n with
 |zero=>exactλb g rm f vs sc m hf ω f7 e hh R S r Q X w=>w.no
 |succ n ih=>exactλb g rm f vs sc m hf=>Ju ih g rm (g.ff f hf)
theorem aE.of{n:Nat}{f:Fn}{vs:List V}{m:ai}{Q:V→ai→Prop}{X:ai→Prop}(hf:f.ok=true)(sc:Sc)(h:qJ n f vs sc m (λv _ m'=>Q v m') X):aE n f vs m Q X:= λb g rm ω f7 e hh R S r Q' X' w=>w.elim λk kx hp hk hx=>
 tK n b g rm f vs sc m hf ω f7 e hh R S r Q' X' ⟨_,_,h,λv _ m' q=>(hp.1 v m' q).elim λsc h=>hk v sc m' h,λm' q=>hx m' (hp.2 m' q)⟩
end
noncomputable def gP(f7:List Value)(n:Nat):List Value:=(Sw n).map λi=>f7.getD i .none
theorem Al(f7:List Value):gP f7 f7.length=f7:=by
 unfold gP;refine Yp λi=> ?_;rw[Tz];by_cases h:i<f7.length
 ·rw[Wj h,S6 h]
  exact bk some (show f7.getD i .none=f7[i] by rw[U7,S6 h];rfl)
 ·rw[Vc (by rw[Uz];exact SS h),Vc (SS h)];rfl
noncomputable def yW(names:List (Sv×S5))(nm:List (Sv×Nat)):Nat→List Sv→Bool
 |_,[]=>true
 |i,x::ps=>(names.lookup x==some .local||names.lookup x==some .cell)&&(nm.lookup x==some i&&yW names nm (i+1) ps)
theorem Ej{names:List (Sv×S5)}{nm:List (Sv×Nat)}{ps:List Sv}:∀{i:Nat},yW names nm i ps=true→∀j x,ps[j]? =some x→(names.lookup x=some .local∨names.lookup x=some .cell)∧nm.lookup x=some (i+j):=by
 induction ps with
 |nil=>exactλh j x e=>nomatch e
 |cons p ps ih=>
  intro i h j x e;obtain⟨h1,h⟩:=Sn.mp h;obtain⟨h2,h3⟩:=Sn.mp h;cases j with
  |zero=>cases SN e;exact⟨((UA _ _).mp h1).imp eq_of_beq eq_of_beq,eq_of_beq h2⟩
  |succ j=>
   have:=ih h3 j x e;rw[UN,Vv 1 j] at this;exact this
noncomputable def ah7(K:TU)(f:Fn)(fd:UW):Bool:=
 Cm fd&&(fd.closure.isEmpty&&(fd.globals==TG&&(fd.builtins==builtinsNs&&(!fd.scope.isCoroutine&&(!fd.scope.isGenerator&&(fd.scope.kind== .function&&(codeIn K fd.code fd.qualname&&
 (SA (D9 fd).length (prog f).nargs&&(decide ((Cs f).map (·.2)).Nodup&&(fd.scope.names.all (λp=>p.2 != .free)&&(yW fd.scope.names (Cs f) 0 (D9 fd)&&GU ⟨fd.scope.names,Cs f,f.quiet⟩ (prog f).body (bodyOf fd))))))))))))
theorem Hu{α β:Type}[BEq α][LawfulBEq α]{p:β→Prop}{l:List (α×β)}(h:∀q∈l,p q.2){x:α}{v:β}(e:l.lookup x=some v):p v:=by
 induction l with
 |nil=>exact nomatch e
 |cons q l ih=>
  rw[show UB x (q::l)=_ from Tj (k:=q.1) (b:=q.2)] at e;cases hb:x==q.1 with
  |true=>rw[hb] at e;exact SN e▸h q SI
  |false=>rw[hb] at e;exact ih (λq hq=>h q (S0 _ hq)) e
theorem ael{P:PF}{f:Fn}(h0:aae (P.K.lookup (P.fa f))=true)(h:ah7 P.K f (P.fd f)=true)(un:Bu (prog f).body (bodyOf (P.fd f))=bodyOf (P.fd f))(bd:∀f7,Xc (P.fd f) ⟨gP f7 (prog f).nargs,[]⟩=pure ((D9 (P.fd f)).zip (gP f7 (prog f).nargs))):FnF P f:=by
 obtain⟨a1,h⟩:=Sn.mp h;obtain⟨a2,h⟩:=Sn.mp h;obtain⟨a3,h⟩:=Sn.mp h;obtain⟨a4,h⟩:=Sn.mp h;obtain⟨a5,h⟩:=Sn.mp h;obtain⟨a6,h⟩:=Sn.mp h;obtain⟨a7,h⟩:=Sn.mp h;obtain⟨a8,h⟩:=Sn.mp h;obtain⟨c1,h⟩:=Sn.mp h;obtain⟨c3,h⟩:=Sn.mp h;obtain⟨c4,h⟩:=Sn.mp h;obtain⟨c5,c6⟩:=Sn.mp h;have len:=T8 c1;exact⟨h0,a1,Xj.mp a2,eq_of_beq a3,eq_of_beq a4,(Wb _).mp a5,(Wb _).mp a6,eq_of_beq a7,a8,
  λf7 hl=>by have:=bd f7;rw[←hl,Al] at this;exact this,len,of_decide_eq_true c3,
  λx e=>Hu (p:= λk=>k≠ .free) (λq hq=>bne_iff_ne.mp (S9.mp c4 q hq)) e rfl,λi x e=>by have:=Ej c5 i x e;rwa [Uq] at this,c6,un⟩
noncomputable def I7(K:TU)(fa:Fn→So)(ca:jn→So)(c:jn):Bool:=
 (Sw nAt).all (λx:Nat=>c.pZ x||TP K (.ref (ca c)) (At.str x)==some none)&&(c.fns.all (λp=>TP K (.ref (ca c)) (At.str p.1)==some (some (.ref (fa p.2))))&&
 (((clsIn K (ca c)).any λcd=>cd.hasDict&&XC cd.mro)&&(TP K (.ref (ca c)) "__getattribute__"==some (some (.builtin "object.__getattribute__"))&&
 (TP K (.ref (ca c)) "__setattr__"==some (some (.builtin "object.__setattr__"))&&(TP K (.ref (ca c)) "__getattr__"==some none&&(TP K (.ref (ca c)) "__init__"==some (some (.ref (fa c.CQ)))&&(YL K (ca c)&&
 (Ub K TG (SH c.name)==some (some (.ref (ca c)))&&WL K (.ref (ca c))))))))))
noncomputable def okF(K:TU)(fa:Fn→So)(f:Fn):Bool:=
 (!f.top||Ub K TG (SH f.qual)==some (some (.ref (fa f))))&&(typeIn K (.ref (fa f))==some (.type "function")&&(WL K (.ref (fa f))&&(aae (K.lookup (fa f))&&ah7 K f (fdOf (K.lookup (fa f))))))
noncomputable def Jq(r:Option (Option Value))(v:Int):Bool:=match r with
 |some (some (.int w _))=>w==v
 |_=>false
theorem GN{r:Option (Option Value)}{v:Int}(h:Jq r v=true):∃t,r=some (some (.int v t)):=by
 cases r with
 |none=>exact gg h
 |some r=>cases r with
  |none=>exact gg h
  |some w=>cases w<;>first|exact gg h|exact⟨_,by rw[←eq_of_beq h]⟩
noncomputable def okG(K:TU):Bool:=(Sw nGl).all (λg:Nat=>Jq (Ub K TG (SH (Gl.name g))) (Gl.val g))&&bis.all λp=>Ub K TG p.1==some none
theorem acX:((Sw nAt).map At.str).Nodup:=by decide+kernel
theorem J2{α β:Type}{f:α→β}{l:List α}:(l.map f).Nodup→∀{x y:α},x∈l→y∈l→f x=f y→x=y:=by
 induction l with
 |nil=>exactλ_ _ _ h=>nomatch h
 |cons a l ih=>
  intro h x y hx hy e;obtain⟨h1,h2⟩:=Ui.mp h;rcases SO.mp hx with rfl|hx'<;>rcases SO.mp hy with rfl|hy'
  ·rfl
  ·exact absurd (show f x∈l.map f from SW.mpr ⟨y,hy',e.symm⟩) h1
  ·exact absurd (show f y∈l.map f from SW.mpr ⟨x,hx',e⟩) h1
  ·exact ih h2 hx' hy' e
theorem jY{n x:Nat}(h:S8 x n=true):x∈Sw n:=UM.mpr (TF h)
theorem HJ{α:Type}{x:Option α}{p:α→Bool}(h:x.any p=true):∃a,x=some a∧p a=true:=match x,h with
 |some a,h=>⟨a,rfl,h⟩
structure ahL(P:PF)(c:jn):Prop where
 data:∀x:At,x.ok=true→c.pZ x=false→TP P.K (.ref (P.ca c)) x.str=some none
 BZ:∀x f,c.BZ x=some f→TP P.K (.ref (P.ca c)) x.str=some (some (.ref (P.fa f)))
 cd:∃cd,clsIn P.K (P.ca c)=some cd∧cd.hasDict=true∧XC cd.mro=true
 ga:TP P.K (.ref (P.ca c)) "__getattribute__"=some (some (.builtin "object.__getattribute__"))
 sa:TP P.K (.ref (P.ca c)) "__setattr__"=some (some (.builtin "object.__setattr__"))
 gt:TP P.K (.ref (P.ca c)) "__getattr__"=some none
 CQ:TP P.K (.ref (P.ca c)) "__init__"=some (some (.ref (P.fa c.CQ)))
 Mf:YL P.K (P.ca c)=true
 name:Ub P.K TG (SH c.name)=some (some (.ref (P.ca c)))
 keep:WL P.K (.ref (P.ca c))=true
theorem Qz{P:PF}{c:jn}(h:I7 P.K P.fa P.ca c=true):ahL P c:=by
 obtain⟨h1,h⟩:=Sn.mp h;obtain⟨h2,h⟩:=Sn.mp h;obtain⟨h3,h⟩:=Sn.mp h;obtain⟨h4,h⟩:=Sn.mp h;obtain⟨h5,h⟩:=Sn.mp h;obtain⟨h6,h⟩:=Sn.mp h;obtain⟨h7,h⟩:=Sn.mp h;obtain⟨h8,h⟩:=Sn.mp h;obtain⟨h9,h10⟩:=Sn.mp h;refine⟨λx hx hm=> ?_,λx f hm=> ?_,?_,eq_of_beq h4,eq_of_beq h5,eq_of_beq h6,eq_of_beq h7,h8,eq_of_beq h9,h10⟩
 ·rcases(UA _ _).mp (S9.mp h1 x (jY hx)) with q|q
  ·exact gg (hm.symm.trans q)
  ·exact eq_of_beq q
 ·have key:∀p∈c.fns,TP P.K (.ref (P.ca c)) (At.str p.1)=some (some (.ref (P.fa p.2))):= λp hp=>eq_of_beq (S9.mp h2 p hp)
  have:∀(l:List (At×Fn)),(∀p∈l,TP P.K (.ref (P.ca c)) (At.str p.1)=some (some (.ref (P.fa p.2))))→l.lookup x=some f→TP P.K (.ref (P.ca c)) (At.str x)=some (some (.ref (P.fa f))):= λl=>by
   induction l with
   |nil=>exactλ_ e=>nomatch e
   |cons q l ih=>
    intro hl e;rw[show UB x (q::l)=_ from Tj (k:=q.1) (b:=q.2)] at e;cases hb:x==q.1 with
    |true=>rw[hb] at e;cases SN e;rw[eq_of_beq hb];exact hl q SI
    |false=>rw[hb] at e;exact ih (λp hp=>hl p (S0 _ hp)) e
  exact this _ key hm
 ·obtain⟨cd,q1,q2⟩:=HJ h3
  obtain⟨q3,q4⟩:=Sn.mp q2;exact⟨cd,q1,q3,q4⟩
theorem O6{P:PF}(hC:(Sw aaM).all (I7 P.K P.fa P.ca)=true)(hF:(Sw A5).all (okF P.K P.fa)=true)(hG:okG P.K=true)
  (hU:(Sw A5).map (λf=>Bu (prog f).body (bodyOf (P.fd f)))=(Sw A5).map (λf=>bodyOf (P.fd f)))
  (hB:∀f7,(Sw A5).map (λf=>Xc (P.fd f) ⟨gP f7 (prog f).nargs,[]⟩)=(Sw A5).map (λf=>pure ((D9 (P.fd f)).zip (gP f7 (prog f).nargs)))):CF P∧GF P∧∀f:Fn,f.ok=true→FnF P f:=by
 have c':∀c:jn,c.ok=true→ahL P c:= λc h=>Qz (S9.mp hC c (jY h));have f':∀f:Fn,f.ok=true→okF P.K P.fa f=true:= λf h=>S9.mp hF f (jY h);obtain⟨g1,g2⟩:=Sn.mp hG;refine⟨⟨λc x hc hx hm=>(c' c hc).data x hx hm,λc x f hc hm=>(c' c hc).BZ x f hm,λc hc=>(c' c hc).cd,λc hc=>(c' c hc).ga,λc hc=>(c' c hc).sa,λc hc=>(c' c hc).gt,λc hc=>(c' c hc).CQ,λc hc=>(c' c hc).Mf,λx y hx hy e=>J2 acX (jY hx) (jY hy) e⟩,
  ⟨λg hg=>GN (S9.mp g1 g (jY hg)),λc hc=>(c' c hc).name,λf hf ht=> ?_,λp hp=>eq_of_beq (S9.mp g2 p hp),λf hf=> ?_,λf hf=> ?_,λc hc=>(c' c hc).keep⟩,λf hf=> ?_⟩
 all_goals
  obtain⟨h1,h⟩:=Sn.mp (f' f hf);obtain⟨h2,h⟩:=Sn.mp h;obtain⟨h3,h⟩:=Sn.mp h;obtain⟨h4,h5⟩:=Sn.mp h
 ·exact eq_of_beq (GJ h1 ht)
 ·exact eq_of_beq h2
 ·exact h3
 ·exact ael h4 h5 (Xd.mp hU f (jY hf)) λf7=>Xd.mp (hB f7) f (jY hf)
section
noncomputable def uJ(zs:List Int):ai:=[.bare (zs.map .int)]
def DI(n:Nat):Prop:= ∀zs:List Int,zs.length≤63→aE n Fn.law [.ref 0] (uJ zs) (λv m=>v=.bool true∧m.get 0=some (.bare (zs.map .int))) fy
theorem MV{ω:Wd}{xs:List Value}{zs:List Int}(I:VG xs zs):eF ω (zs.map .int) xs:=by
 induction I with
 |nil=>exact rfl
 |cons n t _ ih=>exact⟨⟨t,rfl⟩,ih⟩
theorem LO:bis.all (λp=>bootBuiltins p.1==some p.2&&p.1 !="__name__")=true:=by decide+kernel
noncomputable def yx(K:TU):Bool:=K.all λp=>p.2.cls != .type "list"
theorem gY{K:TU}{a:So}{o:SK}(e:K.lookup a=some o):(a,o)∈K:=by
 induction K with
 |nil=>exact nomatch e
 |cons p K ih=>
  rw[show UB a (p::K)=_ from Tj (k:=p.1) (b:=p.2)] at e;cases hb:a==p.1 with
  |true=>rw[hb] at e;cases SN e;rw[eq_of_beq hb];exact SI
  |false=>rw[hb] at e;exact S0 _ (ih e)
noncomputable def sq(s:Sl)(l0:So):Base:= λb=>if b=l0 then none else s.heap.get? b
section
variable{P:PF}{s₁:Sl}{l0:So}{xs:List Value}{zs:List Int}{loose:List Sv}{q:Xk}{mg mb:Sv→Option Value}{k:Nat}
theorem Qq(KX:P.K.In s₁.heap)(nl:yx P.K=true)(T:TopRead q loose mg mb s₁.heap)(hs:∃mm,s₁.heap.Ns UX mm)(h0:s₁.heap.get? l0=some P.scr)(hcl:P.scr.cls=.type "list")(hd:P.scr.data=.seq xs.toArray k):Jb P (sq s₁ l0):=by
 have aa9:∀{h:S2},fu (sq s₁ l0) h→∀b o,s₁.heap.get? b=some o→o≠P.scr→h.get? b=some o:= λ{h} ab b o e c=>ab b o (by unfold sq;rw[aJ λz=>c (SN ((z▸e).symm.trans h0))];exact e)
 have nsK:∀{h:S2} {a m},fu (sq s₁ l0) h→s₁.heap.Ns a m→h.Ns a m:= λ{h a m} ab N=>by obtain⟨o,es,ep,e,d,r⟩:=N;exact⟨o,es,ep,aa9 ab a o e (λz=>nomatch (bk Zd z).symm.trans d|>.symm.trans hd),d,r⟩
 refine⟨λh ab a o e=>aa9 ab a o (KX a o e) λz=> ?_,λh ab=>⟨mg,mb,nsK ab T.g,λx r e=> ?_,nsK ab T.b,λp hp=> ?_⟩,λh ab=> ?_,?_⟩
 ·exact bne_iff_ne.mp (S9.mp nl _ (gY e)) (z▸hcl)
 ·cases r with
  |none=>exact mg_none_of KX T.g e
  |some v=>exact mg_of KX T.g e
 ·obtain⟨p1,p2⟩:=Sn.mp (S9.mp LO p hp)
  rw[T.builtins p.1 (bne_iff_ne.mp p2),eq_of_beq p1]
 ·obtain⟨mc,N,e⟩:=T.nolimit
  exact⟨mc,nsK ab N,e⟩
 ·obtain⟨mm,o,es,ep,e,d,_⟩:=hs
  unfold sq;have ne:UX≠l0:= λz=>nomatch (bk Zd (SN ((z▸e).symm.trans h0))).symm.trans d|>.symm.trans hd
  rw[aJ ne,e];rfl
theorem Rv(KX:P.K.In s₁.heap)(nl:yx P.K=true)(F:CF P∧GF P∧∀f:Fn,f.ok=true→FnF P f)(xf:XF P)
  (T:TopRead q loose mg mb s₁.heap) (hs:∃mm,s₁.heap.Ns UX mm) (h0:s₁.heap.get? l0=some P.scr) (hcl:P.scr.cls=.type "list") (hd:P.scr.data=.seq xs.toArray k)
  (I:VG xs zs) (h63:zs.length≤63) {n:Nat} (hn:n≤200) (law:DI n):
  UP P.M Zi (.call (.ref (P.fa Fn.law)) ⟨[.ref l0],[]⟩) (λr s'=> ∃h' tk,r=.ok (.ret (.bool true))∧s'={s₁ with heap:=h',toks:=tk}∧∀b o,s₁.heap.get? b=some o→h'.get? b=some o) s₁:=by
 have hlen:(zs.map V.int).length≤ay:=by rw[Sy];exact SG h63 (by decide)
 let ω:Wd:=⟨⟨λ_=>l0,λ_=>l0⟩,uJ zs,s₁⟩;have aA:∀{a},ω.m.live a=true→a=0:= λh=>Zj.mp (ai.ef h);have R:bY P (sq s₁ l0) ω:=by
  refine⟨λb o e=> ?_,λa o e=> ?_,λa b ha hb hab=>absurd ((aA ha).trans (aA hb).symm) hab,λa ha=>⟨aG rfl,aG rfl⟩⟩
  ·by_cases z:b=l0
   ·exact no ((aG z).symm.trans e)
   ·exact(aJ z).symm.trans e
  ·cases Zj.mp (ai.fL e)
   cases SN e;exact⟨rfl,⟨xs.toArray,⟨_,h0,hcl,k,hd⟩,MV I⟩,hlen,h0⟩
 have ak2:zw ⟨P,sq s₁ l0,[],Zi⟩:=⟨⟨Qq KX nl T hs h0 hcl hd,.inl rfl,rfl,F.1,F.2.1⟩,xf,F.2.2⟩;have room:wL n Zi:=⟨by show 1+claimMargin+3*n<XY;unfold claimMargin XY;omega,by show 4+20*n+1000<TJ;unfold TJ;omega⟩;refine Xx (law zs h63 _ ak2 room ω [.ref l0] rfl (.inl rfl) R (λe he=>nomatch he) ⟨⟨apT,rfl⟩,rfl⟩
  (λv s'=>v=.bool true∧∃h' tk,s'={s₁ with heap:=h',toks:=tk}∧∀b o,s₁.heap.get? b=some o→h'.get? b=some o) (λ_ _=>False)
  ⟨λv _ m'=>v=.bool true∧m'.get 0=some (.bare (zs.map .int)),fy,⟨λv m' h=>⟨[],h⟩,λ_ h=>h⟩,λv sc m' h ω' e R' E pv r=> ?_,λ_ h=>h.elim⟩) λr s' h=> ?_
 ·obtain⟨rfl,h0'⟩:=h
  subst e;refine⟨r,ω'.s.heap,ω'.s.toks,E.rest,λb o e=> ?_⟩;by_cases hb:b=l0
  ·subst hb
   have X:=(R'.obj 0 _ h0').2.2.2;rw[(E.loc 0 apT).1] at X;exact X.trans (h0.symm.trans e)
  ·exact R'.base b o ((aJ hb).trans e)
 ·rcases r with e|(v|_|_|_)
  ·exact h.elim
  all_goals first|exact h.elim|(obtain⟨hv,h',tk,ue,hk⟩:=h;exact⟨h',tk,by rw[hv],ue,hk⟩)
end
end
end cT
namespace cT.Top
open PySem PySem.W PyProof.Rows
noncomputable def yV(s:UL):TU:=(Sw s.n).filterMap λa=>match s.tree.get a with
 |some o=>match alive o with
  |some o'=>if o'.cls== .type "list" then none else some (a,o')
  |none=>none
 |none=>none
theorem OT(s:UL):(yV s).In s.abs.heap:= λa o e=>by
 obtain⟨b,hb,he⟩:=Ze.mp (show(a,o)∈(Sw s.n).filterMap _ from gY e);have hb:=UM.mp hb;cases g:s.tree.get b with
 |none=>rw[g] at he;exact nomatch he
 |some o1=>
  rw[g] at he;cases al:alive o1 with
  |none=>simp only[al] at he;exact nomatch he
  |some o2=>
   simp only[al] at he
   split at he
   ·exact nomatch he
   ·cases he
    show(VS s.tree s.n s.life).get? a=some o;rw[abs_get hb g,al]
noncomputable def KD(f:Fn):So:=([132,139,146,153,160,174,181,223,228,252,266,273,285,292,299,306,320,327,334,341,348,355,362,369,383,397,402,409,423,430,437,444,451,458,465,472,479,493,507,535,549,556,563,584,591,605,612,619,647,675,682,689,696,717,724,731,738,745,752,771,785,806,813,820,827,834,841,862,869,876,883,890,897,911,916,921,926,931,936,941,948,955,960,967,974,981,988,995,1002,1009,1016,1021]:List Nat).getD f 0
noncomputable def caT(c:jn):So:=([205,236,276,386,482,566,650,762,788,844,900]:List Nat).getD c 0
noncomputable def findF(q:Sv):List S1→List S1
 |[]=>[]
 |s::r=>match s with
  |.FunctionDef n _ b _ _ _ _ _ _ _=>if n==q then b else findF q r
  |_=>findF q r
noncomputable def MY(k:Sv):List S1→List S1
 |[]=>[]
 |s::r=>match s with
  |.ClassDef n _ _ b _ _ _ _ _ _ _=>if n==k then b else MY k r
  |_=>MY k r
noncomputable def upTo(l:List Char):List Char×List Char:=(l.takeWhile (· !='.'),(l.dropWhile (· !='.')).drop 1)
noncomputable def IB(f:Fn):List S1:=match f.top with
 |true=>findF (SH f.qual) Yk.main.body
 |false=>findF (SH (apU (upTo f.qual.toList).2)) (MY (SH (apU (upTo f.qual.toList).1)) Yk.main.body)
noncomputable abbrev fdT(K:TU)(f:Fn):UW:=fdOf (K.lookup (KD f))
noncomputable abbrev mapR{α β:Type}(f:α→β)(l:List α):List β:=l.foldr (λa t=>f a::t) []
theorem mapR_eq{α β:Type}(f:α→β)(l:List α):mapR f l=l.map f:=by
 induction l with
 |nil=>rfl
 |cons a l ih=>exact bk (f a:: ·) ih
theorem trees:(Sw A5).map (λf=>Bu (prog f).body (IB f))=mapR IB (Sw A5):=by kernel_rfl
noncomputable def afJ(K:TU):Bool:=yx K&&(Sw aaM).all (I7 K KD caT)
noncomputable def aha(K:TU):Bool:=((Sw A5).take 58).all (okF K KD)
noncomputable def ahr(K:TU):Bool:=((Sw A5).drop 58).all (okF K KD)
noncomputable def ac4(K:TU):Bool:=okG K&&(Ub K TG (SH "law")==some (some (.ref (KD Fn.law)))&&
 (Ub K TG (SH "ConfRefused")==some (some (.ref 104))&&(tailIn K [.type "Exception",.type "BaseException",.type "object"] (jh (K.lookup 104)).mro.tail&&(nsOkIn K (jh (K.lookup 104)).ns&&Ub K (jh (K.lookup 104)).ns "__init__"==some none))))
noncomputable def obs(K:TU):Bool:=yx K&&((Sw aaM).all (I7 K KD caT)&&((Sw A5).all (okF K KD)&&ac4 K))
theorem aeB{K:TU}(h1:afJ K=true)(h2:aha K=true)(h3:ahr K=true)(h4:ac4 K=true):obs K=true:=by obtain⟨a,b⟩:=Sn.mp h1;have c:((Sw A5).take 58++(Sw A5).drop 58).all (okF K KD)=true:=List.all_append.trans (Sn.mpr ⟨h2,h3⟩);rw[Zc] at c;exact Sn.mpr ⟨a,Sn.mpr ⟨b,Sn.mpr ⟨c,h4⟩⟩⟩
noncomputable def ahS(f7:List Value)(K:TU):=(K.lookup 104,(Sw A5).map (λf=>bodyOf (fdT K f)),(Sw A5).map (λf=>Xc (fdT K f) ⟨gP f7 (prog f).nargs,[]⟩))
noncomputable def afS(f7:List Value)(K:TU):Option SK×List (List S1)×List (SJ (List (Sv×Value))):=(some (mkX 104 (K.lookup 104)),mapR IB (Sw A5),mapR (λf=>pure ((D9 (fdT K f)).zip (gP f7 (prog f).nargs))) (Sw A5))
structure KOk(K:TU):Prop where
 o:obs K=true
 e:∀f7,ahS f7 K=afS f7 K
def says(h:S2):Prop:= ∃K:TU,K.In h∧KOk K
theorem Qo(w:Tu)(os:UD):(fin w os).map (λs=>(afJ (yV s),ac4 (yV s)))=some (true,true):=by kernel_rfl
theorem QY(w:Tu)(os:UD):(fin w os).map (λs=>aha (yV s))=some true:=by kernel_rfl
theorem Qa(w:Tu)(os:UD):(fin w os).map (λs=>ahr (yV s))=some true:=by kernel_rfl
theorem aeK(w:Tu)(os:UD)(f7:List Value):(fin w os).map (λs=>ahS f7 (yV s))=(fin w os).elim none λs=>some (afS f7 (yV s)):=by kernel_rfl
end cT.Top
namespace cT
section
section
variable{n:Nat}{t:nO}{body:Ss}{bf:List Nat}{env:List V}{v:V}{m:ai}{X:ai→Prop}
theorem aE.bg{f:Fn}{vs:List V}{Q Q':V→ai→Prop}{X X':ai→Prop}(h:aE n f vs m Q X)(hq:∀v m,Q v m→Q' v m)(hx:∀m,X m→X' m):aE n f vs m Q' X':= λb g rm ω f7 e hh R S r Q₁ X₁ w=>h b g rm ω f7 e hh R S r Q₁ X₁ (w.elim λk kx hp hk hkx=>⟨k,kx,⟨λv m' q=>hp.1 v m' (hq v m' q),λm' q=>hp.2 m' (hx m' q)⟩,hk,hkx⟩)
theorem rO.intro{Q:Fl→ai→Prop}{bD:List V}{J:List V→List V→ai→Prop}(hi:aO v m=some bD)(hJ:J bD env m)
  (turn:∀x l env m',J (x::l) env m'→∃sc,jK t (λenv sc m k=>rX (qn n) body env sc m k λ_=>False) v bD bf (λl env sc m₁=>J l env m₁∨Jc m.length v bD (λl env _ m=>J l env m) l env sc m₁) (λx _ m=>Q (.ret x) m) x l env m' sc)
  (fin:∀env m,J [] env m→Q (.next (cC bf env)) m):rO n t body bf env v m Q X:= λc sk ps u h ω pv e st r=>
 E1 (sc:=[]) (J:= λl env _ m=>J l env m) u.ok u.inj (u.T (Sn.mp h).1) (λaa sc ω st=>(MK (tw (tK n)) body c sk _ u (Sn.mp h).2 aa sc ω st).nox) st r (e▸hi) (e▸hJ) (λx l env sc m h=>turn x l env m h) (λ_ _ _ _ h=>by rw[show ω.n=m.length from bk Vx e];exact h) (λ_ _ _ h=>h) λenv sc m h=>fin env m h
theorem WhC.intro{e:E}{Q:Fl→ai→Prop}{J:Nat→List V→ai→Prop}{k:Nat}(hJ:J k env m)
  (turn:∀k env m,J k env m→∃sc,sA (λenv sc m=>rE (qn n) env e sc m) (λenv sc m k=>rX (qn n) body env sc m k λ_=>False) bf J Q k env m sc):WhC n e body bf env m Q X:= λc sk ps u h ω em st=>
 HA (λaa=>u.tr (tw (tK n)) (Sn.mp h).1 aa) (λaa sc ω st=>(MK (tw (tK n)) body c sk _ u (Sn.mp h).2 aa sc ω st).nox) st (em▸hJ) turn
theorem pq.intro{cs:Es}{el:E}{Q:V→ai→Prop}{bD:List V}{J:List V→List V→ai→Prop}(hi:aO v m=some bD)(hlen:bD.length<ay)(hJ:J bD [] m)
  (turn:∀x l ys m,J (x::l) ys m→∃sc,uz t env (λenv sc m k _=>rT (qn n) env cs sc m k) (λenv=>rE (qn n) env el) v bD (λl ys _ m=>J l ys m) x l ys m sc)
  (fin:∀ys m,J [] ys m→ys.length<ay∧Q (.ref m.next) (m.push (.list ys))):pq n t cs el env v m Q X:= λc sk pe g ok on h ω pv e st r=>
 have H:=(tw (tK n)).ex
 A7 (sc:=[]) (D6 g ok on h (LH H cs) (AH H el)) st r (e▸hi) hlen (e▸hJ) (λx l ys sc m h=>turn x l ys m h) λys sc m h=>fin ys m h
end
end
end cT
namespace cT
open PySem PySem.W PySem.Calls PyProof.Rows
section
structure xm(f:Nat→Nat)(ms M dW M':ai):Prop where
 em:Em f dW M'
 len:M'.length=M.length+(dW.length-ms.length)
 keep:∀b,b<M.length→(∀a,ms.live a=true→f a≠b)→M'.get b=M.get b
 Rk:∀a,ms.length≤a→M'.live (f a)=true→dW.live a=true
section
variable{P:PF}{B:Base}{ω ω₀':Wd}{f:Nat→Nat}{ms dW M':ai}{W:So→Prop}{b:Bx}
theorem Se{b n l k:Nat}(h1:n≤b)(h2:b<n+(l-k))(h:k≤l):k+(b-n)<l:=by omega
theorem xm.RB(p:xm f ms ω.m dW M')(R:bY P B ω)(E:Em f ms ω.m)(e:ω₀'.m=dW)(R₀:bY P B ω₀')(X:fZ W (ω.pn f ms) ω₀')(S:WS W ω.h)(hW:∀b,W b→¬ez ω b):
  ∃ω':Wd,ω₀'=ω'.pn f dW∧ω'.m=M'∧bY P B ω'∧fZ W ω ω':=by
 subst e;have hk:ms.length≤ω₀'.m.length:=X.len;let pD (g g':Nat→So) (b:Nat):So:=if b<ω.m.length then g b else g' (ms.length+(b-ω.m.length));let ω':Wd:=⟨⟨pD ω.σ.r ω₀'.σ.r,pD ω.σ.d ω₀'.σ.d⟩,M',ω₀'.s⟩;have lo:∀b,b<ω.m.length→ω'.σ.r b=ω.σ.r b∧ω'.σ.d b=ω.σ.d b:= λb h=>⟨aG h,aG h⟩;have hi:∀a,ms.length≤a→ω'.σ.r (f a)=ω₀'.σ.r a∧ω'.σ.d (f a)=ω₀'.σ.d a:= λa h=>by
  have q:=E.hi a h;have n:¬f a<ω.m.length:=by rw[q];exact TL.mpr (SV _ _)
  have z:ms.length+(f a-ω.m.length)=a:=by rw[q,VM];exact UJ h
  exact⟨(aJ n).trans (bk ω₀'.σ.r z),(aJ n).trans (bk ω₀'.σ.d z)⟩
 have at_:∀a,ω'.σ.r (f a)=ω₀'.σ.r a∧ω'.σ.d (f a)=ω₀'.σ.d a:= λa=>by
  by_cases h:a<ms.length
  ·obtain⟨l1,l2⟩:=lo _ (E.lo a h)
   obtain⟨x1,x2⟩:=X.loc a h;exact⟨l1.trans x1.symm,l2.trans x2.symm⟩
  ·exact hi a (SS h)
 have eu:ω₀'=ω'.pn f ω₀'.m:=by have h1:ω₀'.σ.r= λa=>ω'.σ.r (f a):=funext λa=>(at_ a).1.symm;have h2:ω₀'.σ.d= λa=>ω'.σ.d (f a):=funext λa=>(at_ a).2.symm;obtain⟨⟨r,d⟩,m,s⟩:=ω₀';show Wd.mk ⟨r,d⟩ m s=⟨⟨λa=>ω'.σ.r (f a),λa=>ω'.σ.d (f a)⟩,m,s⟩;rw[←h1,←h2]
 have lv:∀a,ms.live a=true→ω₀'.m.live a=true:= λa h=>(X.live a (ai.ef h)).trans h;have cs:∀b,M'.live b=true→(∃a,b=f a∧ω₀'.m.live a=true)∨(b<ω.m.length∧ω.m.live b=true∧M'.get b=ω.m.get b∧∀a,ms.live a=true→f a≠b):= λb h=>by
  by_cases c:b<ω.m.length
  ·by_cases d:∃a,ms.live a=true∧f a=b
   ·obtain⟨a,ha,z⟩:=d;exact .inl ⟨a,z.symm,lv a ha⟩
   ·have k:=p.keep b c λa ha z=>d ⟨a,ha,z⟩
    exact .inr ⟨c,(ai.lV k).symm.trans h,k,λa ha z=>d ⟨a,ha,z⟩⟩
  ·have z:b=f (ms.length+(b-ω.m.length)):=by
    rw[E.hi _ (SV _ _),VM];exact(UJ (SS c)).symm
   exact .inl ⟨_,z,p.Rk _ (SV _ _) (z▸h)⟩
 have L0:=X.le (R.pn E) S;have L:Le ω ω':=⟨SG (SV _ _) (Te p.len.symm),λa h=>(lo a h).1,L0.mG⟩;have off:∀b,b<ω.m.length→ω.m.live b=true→(∀a,ms.live a=true→f a≠b)→∀y ob,(y=ω.σ.r b∨y=ω.σ.d b)→ω.h.get? y=some ob→ω₀'.h.get? y=some ob:= λb _ hb hn y ob hy ey=>by
  obtain⟨o',e',s⟩:=X.keep y ob ey (λ⟨a,ha,z⟩=>by
   obtain⟨p1,p2,p3⟩:=R.apart _ _ (E.live ha) hb (hn a ha);have q2:=(R.apart _ _ hb (E.live ha) (Tf (hn a ha))).2.1;rcases hy with hy|hy<;>rcases z with z|z
   ·exact p1 (z.symm.trans hy)
   ·exact q2 (hy.symm.trans z)
   ·exact p2 (z.symm.trans hy)
   ·exact p3 (z.symm.trans hy)) λw=>hW y w ⟨b,hb,hy⟩
  obtain⟨o₂,e₂,c,_⟩:=R.lD (ω:=ω) ⟨b,hb,hy⟩;cases ey.symm.trans e₂;rw[e',s.exact λz=>by
   rcases c with c|c|⟨_,c⟩
   ·exact iZ (by decide) (c.symm.trans z)
   ·exact iZ (by decide) (c.symm.trans z)
   ·exact nomatch c.symm.trans z]
 have far:∀a b,ω₀'.m.live a=true→b<ω.m.length→ω.m.live b=true→(∀a,ms.live a=true→f a≠b)→
   (ω₀'.σ.r a≠ω.σ.r b∧ω₀'.σ.r a≠ω.σ.d b)∧(ω₀'.σ.d a≠ω.σ.r b∧ω₀'.σ.d a≠ω.σ.d b):= λa b ha hb lb hn=>by
  by_cases c:a<ms.length
  ·have la:ms.live a=true:=(X.live a c).symm.trans ha
   obtain⟨x1,x2⟩:=X.loc a c;obtain⟨p1,p2,p3⟩:=R.apart _ _ (E.live la) lb (hn a la);have q2:=(R.apart _ _ lb (E.live la) (Tf (hn a la))).2.1;rw[x1,x2];exact⟨⟨p1,p2⟩,⟨Tf q2,p3⟩⟩
  ·obtain⟨n1,n2⟩:=X.new a (SS c) (ai.ef ha)
   have k:∀y,(y=ω.σ.r b∨y=ω.σ.d b)→∃o,ω.h.get? y=some o:= λy hy=>R.live y ⟨b,lb,hy⟩;obtain⟨o1,k1⟩:=k _ (.inl rfl);obtain⟨o2,k2⟩:=k _ (.inr rfl);exact⟨⟨λz=>no ((z▸n1).symm.trans k1),λz=>no ((z▸n1).symm.trans k2)⟩,⟨λz=>no ((z▸n2).symm.trans k1),λz=>no ((z▸n2).symm.trans k2)⟩⟩
 refine⟨ω',eu,rfl,⟨R₀.base,λb o q=> ?_,λa b ha hb hab=> ?_,λb hb=> ?_⟩,⟨L.len,λb hb=> ?_,lo,λb o q nf nw=>X.keep b o q (λz=>nf (z.pn E)) nw,X.soft,λb h1 h2=> ?_,X.cls,X.rest⟩⟩
 ·by_cases hl:o.live=true
  ·rcases cs b (ai.dg q hl) with⟨a,rfl,ha⟩|⟨hb,lb,k,hn⟩
   ·obtain⟨o₁,e₁,l₁⟩:=ai.iu ha
    cases(p.em.get a o₁ e₁ l₁).symm.trans q;exact(ko.bM (ω:=ω') p.em.Ey).mpr (eu▸R₀.obj a o₁ e₁)
   ·exact(R.obj b o (k.symm.trans q)).bg L (lo b hb).1 (lo b hb).2 λ_ y ob hy ey=>off b hb lb hn y ob hy ey
  ·cases o<;>first|exact absurd rfl hl|trivial
 ·rcases cs a ha with⟨i,rfl,hi⟩|⟨la,ga,_,na⟩<;>rcases cs b hb with⟨j,rfl,hj⟩|⟨lb,gb,_,nb⟩
  ·rw[(at_ i).1,(at_ i).2,(at_ j).1,(at_ j).2];exact R₀.apart i j hi hj λz=>hab (bk f z)
  ·rw[(at_ i).1,(at_ i).2,(lo b lb).1,(lo b lb).2]
   obtain⟨⟨f1,f2⟩,f3,f4⟩:=far i b hi lb gb nb;exact⟨f1,f2,f4⟩
  ·rw[(at_ j).1,(at_ j).2,(lo a la).1,(lo a la).2]
   obtain⟨⟨f1,f2⟩,f3,f4⟩:=far j a hj la ga na;exact⟨Tf f1,Tf f3,Tf f4⟩
  ·rw[(lo a la).1,(lo a la).2,(lo b lb).1,(lo b lb).2];exact R.apart a b ga gb hab
 ·rcases cs b hb with⟨a,rfl,ha⟩|⟨lb,gb,_,_⟩
  ·rw[(at_ a).1,(at_ a).2];exact R₀.fresh a ha
  ·rw[(lo b lb).1,(lo b lb).2];exact R.fresh b gb
 ·by_cases d:∃a,ms.live a=true∧f a=b
  ·obtain⟨a,ha,rfl⟩:=d
   exact(p.em.live (lv a ha)).trans (E.live ha).symm
  ·exact ai.lV (p.keep b hb λa ha z=>d ⟨a,ha,z⟩)
 ·have z:b=f (ms.length+(b-ω.m.length)):=by
   rw[E.hi _ (SV _ _),VM];exact(UJ h1).symm
  obtain⟨q1,q2⟩:=hi (ms.length+(b-ω.m.length)) (SV _ _);rw[←z] at q1 q2;rw[q1,q2];refine X.new _ (SV _ _) ?_;exact Se h1 (SX h2 (Te p.len)) hk
end
end
section
section
variable{α β γ:Type}{b:Bx}{W:So→Prop}{ω:Wd}{f:Nat→Nat}{ms dW M M':ai}
theorem jd.frame{rl₀:Wd→α→γ→Prop}{rl:Wd→β→γ→Prop}{Q:γ→Sl→Prop}{v:α}{v':β}(h:jd b W ω rl Q v' M')(p:xm f ms ω.m dW M')(R:b.bY ω)(E:Em f ms ω.m)(S:WS W ω.h)(hW:∀b,W b→¬ez ω b)
  (hr:∀ω':Wd,ω'.m=M'→∀pv,rl₀ (ω'.pn f dW) v pv→rl ω' v' pv):jd b W (ω.pn f ms) rl₀ Q v dW:= λω₀' e R₀ X pv r=>by
 obtain⟨ω',eu,em,R',X'⟩:=p.RB R E e R₀ X S hW;have:=h ω' em R' X' pv (hr ω' em pv (eu▸r));rw[eu];exact this
theorem IJ.frame{X:Value→Sl→Prop}(h:IJ b W ω X M')(p:xm f ms ω.m dW M')(R:b.bY ω)(E:Em f ms ω.m)(S:WS W ω.h)(hW:∀b,W b→¬ez ω b):IJ b W (ω.pn f ms) X dW:=⟨h.1,λω₀' x e F=>by obtain⟨ω',eu,em,R',X'⟩:=p.RB R E e F.bH F.ext S hW;have:=h.2 ω' x em ⟨R',F.new,by have:=F.exc;rw[eu] at this;exact this,X',λT hh=>F.tb T (by rw[eu];exact hh)⟩;rw[eu];exact this⟩
def agf(m m':ai):Prop:=m.length≤m'.length∧∀a,a<m.length→m'.live a=m.live a
theorem aE.frame{n:Nat}{g:Fn}{vs:List V}{Q Q':V→ai→Prop}{X X':ai→Prop}(h:aE n g vs ms Q X)(E:Em f ms M)
  (hQ:∀v dW,Q v dW→agf ms dW→∃M',xm f ms M dW M'∧Q' (v.bM f) M') (hX:∀dW,X dW→∃M',xm f ms M dW M'∧X' M'):aE n g (V.fW f vs) M Q' X':= λb gd rm ω f7 e hh R S r Q₁ X₁ w=>by
 subst e;exact w.elim λk kx hp hk hx=>h b gd rm (ω.pn f ms) f7 rfl hh (R.pn E) (S.pn E) ((eF.bM E.Ey).mp r) Q₁ X₁
  ⟨λv _ dW=>Q v dW,λdW=> ∃M',xm f ms ω.m dW M'∧kx M',⟨λv dW q=>⟨[],q⟩,λdW q=>let⟨M',p,q⟩:=hX dW q;⟨M',p,hp.2 _ q⟩⟩,λv sc dW q ω₀' e R₀ Y=>by obtain⟨M',p,q⟩:=hQ v dW q (e▸⟨Y.len,Y.live⟩);obtain⟨sc,q⟩:=hp.1 _ _ q;exact(hk _ _ _ q).frame p R E .none (λ_ z=>z.elim) (λω' em pv r=>(VR.bM (em▸p.em.Ey)).mpr r) ω₀' e R₀ Y,λdW q=>let⟨M',p,q⟩:=q;(hx _ q).frame p R E .none λ_ z=>z.elim⟩
theorem aE.aj5{n:Nat}{g:Fn}{vs:List V}{m:ai}{Q Q':V→ai→Prop}{X:ai→Prop}(h:aE n g vs m Q X)(hq:∀v m',Q v m'→∃mu v' m₂,Mv m.length mu [] m' [] m₂∧v=v'.bM mu∧Q' v' m₂):aE n g vs m Q' X:= λb gd rm ω f7 e hh R S r Q₁ X₁ w=>by
 subst e;exact h b gd rm ω f7 rfl hh R S r Q₁ X₁ (w.elim λk kx hp hk hx=>⟨λv _ m'=>Q v m',X,⟨λv m' q=>⟨[],q⟩,λ_ q=>q⟩,λv sc m' q ω' e' R' E' pv r'=>by obtain⟨mu,v',m₂,g,rfl,q'⟩:=hq v m' q;obtain⟨sc,PZ⟩:=hp.1 _ _ q';subst e';exact hk _ sc _ PZ (ω'.pn mu m₂) rfl (R'.pn g.em) (g.ext E') pv ((VR.bM g.em.Ey).mp r'),λm' q=>hx m' (hp.2 m' q)⟩)
theorem nE{n:Nat}{g:Fn}{vs:List V}{m m' m₂:ai}{v v':V}{mu:Nat→Nat}(h:aq (aE n g vs m) v m')(k:Mv m.length mu [] m' [] m₂)(e:v=v'.bM mu):aq (aE n g vs m) v' m₂:=
 aE.aj5 h λv m' q=>⟨mu,v',m₂,by rw[q.2];exact k,q.1.trans e,rfl,rfl⟩
end
theorem ai.uB{n a:Nat}{g:Nat→O}(h:a<n):ai.get ((Sw n).map g) a=some (g a):=by unfold ai.get;rw[Tz,Wj h];rfl
theorem BK{k n a b:Nat}(ha:k≤a)(hb:k≤b)(e:n+(a-k)=n+(b-k)):a=b:=by rw[←apV ha,Zk e,apV hb]
theorem F5{k n a l:Nat}(h:k≤l)(ha:l≤a):n+(a-k)=n+(l-k)+(a-l):=by rw[←Nat.sub_add_sub_cancel ha h,Vv (a-l),UN]
theorem abp{k n a l:Nat}(h:a<l)(ha:k≤a):n+(a-k)<n+(l-k):=XZ (apW ha h) n
theorem xm.akh{f:Nat→Nat}{ms M dW:ai}(E:Em f ms M)(len:ms.length≤dW.length)(lv:∀a,a<ms.length→dW.live a=ms.live a):∃M',xm f ms M dW M':=by
 classical
 let g (b:Nat):O:=if h:∃a,dW.live a=true∧f a=b then((dW.get h.choose).getD .aM).bM f else if b<M.length then(M.get b).getD .aM else .aM;have inj:∀a b,dW.live a=true→dW.live b=true→f a=f b→a=b:= λa b ha hb e=>by
  have old:∀x y,x<ms.length→¬y<ms.length→f x=f y→False:= λx y hx hy z=>by rw[E.hi y (SS hy)] at z;exact absurd (E.lo x hx) (TL.mpr (z▸SV _ _))
  by_cases ca:a<ms.length<;>by_cases cb:b<ms.length
  ·exact E.inj a b ((lv a ca).symm.trans ha) ((lv b cb).symm.trans hb) e
  ·exact(old a b ca cb e).elim
  ·exact(old b a cb ca e.symm).elim
  ·rw[E.hi a (SS ca),E.hi b (SS cb)] at e
   exact BK (SS ca) (SS cb) e
 have pick:∀a o,dW.get a=some o→o.live=true→g (f a)=o.bM f:= λa o e l=>by have h:∃x,dW.live x=true∧f x=f a:=⟨a,ai.dg e l,rfl⟩;have q:h.choose=a:=inj _ _ h.choose_spec.1 (ai.dg e l) h.choose_spec.2;show(if h:∃x,dW.live x=true∧f x=f a then((dW.get h.choose).getD .aM).bM f else _)=_;rw[dif_pos h,q,e];rfl
 have hl:((Sw (M.length+(dW.length-ms.length))).map g).length=M.length+(dW.length-ms.length):=by rw[Sy,Uz]
 have lo:∀a,a<dW.length→f a<M.length+(dW.length-ms.length):= λa h=>by
  by_cases c:a<ms.length
  ·exact SX (E.lo a c) (SV _ _)
  ·rw[E.hi a (SS c)];exact abp h (SS c)
 refine⟨(Sw (M.length+(dW.length-ms.length))).map g,⟨λa h=>by rw[hl];exact lo a h,λa h=> ?_,λa o e l=> ?_,inj⟩,hl,λb hb hn=> ?_,λa ha hd=> ?_⟩
 ·rw[hl,E.hi a (SG len h)];exact F5 len h
 ·exact(ai.uB (lo a (ai.fL e))).trans (bk some (pick a o e l))
 ·refine(ai.uB (SX hb (SV _ _))).trans ?_
  have h:¬ ∃a,dW.live a=true∧f a=b:= λ⟨a,ha,e⟩=>by
   by_cases c:a<ms.length
   ·exact hn a ((lv a c).symm.trans ha) e
   ·rw[E.hi a (SS c)] at e
    exact absurd hb (TL.mpr (e▸SV _ _))
  show some (if h:_ then _ else _)=_;rw[dif_neg h,aG hb,show M.get b=some M[b] from S6 hb];rfl
 ·obtain⟨o,e,l⟩:=ai.iu hd
  have k9:=ai.fL e;rw[ai.uB (hl▸k9)] at e;have e:=SN e;by_cases h:∃x,dW.live x=true∧f x=f a
  ·obtain⟨x,hx,z⟩:=h
   by_cases c:x<ms.length
   ·rw[E.hi a ha] at z
    exact absurd (E.lo x c) (TL.mpr (z▸SV _ _))
   ·rw[E.hi a ha,E.hi x (SS c)] at z
    exact BK (SS c) ha z▸hx
  ·have q:g (f a)=.aM:=by
    show(if h:∃x,dW.live x=true∧f x=f a then _ else if f a<M.length then _ else _)=_;rw[dif_neg h,aJ (by rw[E.hi a ha];exact TL.mpr (SV _ _))]
   rw[q] at e;subst e;exact gg l
end
end cT
namespace cT
section
def Ch(sc:Sc)(P F:Prop):Prop:=F→P
section
variable{sc:Sc}{P F p:Prop}{α:Type}
theorem zF:Ch [] F F:=id
theorem chD(h:P):Ch [] P True:= λ_=>h
theorem OO(k:Nat)(x:Option (List V))(c:Ch sc P F):Ch ((k,.g)::sc) (x=x∧P) F:= λf=>⟨rfl,c f⟩
theorem jj(k:Nat){x:Option V}{v:V}(h:x=some v)(c:Ch sc P F):Ch ((k,.v v)::sc) (x=some v∧P) F:= λf=>⟨h,c f⟩
theorem j8(k:Nat){x:Option Bool}{b:Bool}(h:x=some b)(c:Ch sc P F):Ch ((k,.b b)::sc) (x=some b∧P) F:= λf=>⟨h,c f⟩
theorem chG(k:Nat)(h:p)(c:Ch sc P F):Ch ((k,.g)::sc) (p∧P) F:= λf=>⟨h,c f⟩
theorem ED(k:Nat)(h:p){x l:List V}(e:x=l)(c:Ch sc P F):Ch ((k,.l l)::sc) (p∧x=l∧P) F:= λf=>⟨h,e,c f⟩
theorem qQ(k:Nat)(h:p){x l:List (V×V)}(e:x=l)(c:Ch sc P F):Ch ((k,.d l)::sc) (p∧x=l∧P) F:= λf=>⟨h,e,c f⟩
theorem chO(k:Nat){x:uf V}{v:V}{m:ai}(h:x=.ok v m)(c:Ch sc P F):Ch ((k,.o v m)::sc) (x=.ok v m∧P) F:= λf=>⟨h,c f⟩
theorem chU(k:Nat){x:uf Unit}{m:ai}(h:x=.ok () m)(c:Ch sc P F):Ch ((k,.o .none m)::sc) (x=.ok () m∧P) F:= λf=>⟨h,c f⟩
theorem chC(k:Nat){D:tU V}{v:V}{m:ai}(h:aq D v m)(c:Ch sc P F):Ch ((k,.c v m)::sc) (aq D v m∧P) F:= λf=>⟨h,c f⟩
theorem P7(k:Nat){D:tU Fl}{v:Fl}{m:ai}(h:aq D v m)(c:Ch sc P F):Ch ((k,.f v m)::sc) (aq D v m∧P) F:= λf=>⟨h,c f⟩
theorem HX(k:Nat){D:ai→tU V}{v:V}{gs:List (Nat×O)}(h:∀M,b7 gs M→aq (D M) v M)(c:Ch sc P F):Ch ((k,.r v gs)::sc) ((∀M,b7 gs M→aq (D M) v M)∧gs.map (·.2)=gs.map (·.2)∧P) F:= λf=>⟨h,rfl,c f⟩
theorem Rf(k:Nat){D:ai→tU V}{l:List V}{gs:List (Nat×O)}(h:∀M,b7 gs M→aq (D M) (.ref M.next) (M.push (.list l)))(c:Ch sc P F):Ch ((k,.rl l gs)::sc) ((∀M,b7 gs M→aq (D M) (.ref M.next) (M.push (.list l)))∧gs.map (·.2)=gs.map (·.2)∧P) F:= λf=>⟨h,rfl,c f⟩
theorem CS(k:Nat){x:ai→uf V}{l:List V}{gs:List (Nat×O)}(h:∀M,b7 gs M→x M=.ok (.ref M.next) (M.push (.list l)))(c:Ch sc P F):Ch ((k,.rl l gs)::sc) ((∀M,b7 gs M→x M=.ok (.ref M.next) (M.push (.list l)))∧gs.map (·.2)=gs.map (·.2)∧P) F:= λf=>⟨h,rfl,c f⟩
theorem chQ(k:Nat){D:tU V}{Q P:V→ai→Prop}(h:D Q fy)(c:∀v m,Q v m→Ch [] (P v m) True):Ch [(k,.q Q)] (D Q fy∧∀v m,Q v m→∃sc:Sc,P v m) F:= λ_=>⟨h,λv m q=>⟨[],c v m q trivial⟩⟩
end
section
variable{n:Nat}{f:Fn}{vs:List V}{m m₁:ai}{v:V}{sc:Sc}{P F:Prop}{Q:V→ai→Prop}{X:ai→Prop}
theorem goD(hf:f.ok=true)(h:Ch sc P True)(e:P=qJ n f vs sc m (λv _ m'=>Q v m') X):aE n f vs m Q X:=aE.of hf sc (cast e (h trivial))
theorem goF(hf:f.ok=true)(h:Ch sc P (v=v∧m₁=m₁))(e:P=qJ n f vs sc m (λv' _ m'=>v'=v∧m'=m₁) fy):aq (aE n f vs m) v m₁:=aE.of hf sc (cast e (h ⟨rfl,rfl⟩))
end
structure Lk where
 k:Nat
 a:An
 W:Prop→Prop
 ok:∀P,P→W P
noncomputable abbrev jf:=List Lk
noncomputable def xY(c:jf):Sc:=c.map λl=>(l.k,l.a)
def Ak(F:Prop)(c:jf):Prop:=c.foldr (λl P=>l.W P) F
theorem mz{F:Prop}(c:jf)(h:F):Ak F c:=by
 induction c with
 |nil=>exact h
 |cons l c ih=>exact l.ok _ ih
section
variable{α:Type}
noncomputable def lk(k:Nat)(a:An){p:Prop}(h:p)(c:jf):jf:=⟨k,a,λP=>p∧P,λ_ f=>⟨h,f⟩⟩::c
noncomputable def lk2(k:Nat)(a:An){p q:Prop}(h:p)(h':q)(c:jf):jf:=⟨k,a,λP=>p∧q∧P,λ_ f=>⟨h,h',f⟩⟩::c
noncomputable abbrev kE:jf:=[]
noncomputable def gZ(k:Nat):jf:=[⟨k,.g,λP=>P,λ_ f=>f⟩]
noncomputable def kI(k:Nat)(x:Option (List V))(c:jf):jf:=lk k .g (Ue x) c
noncomputable def kS(k:Nat)(v:V)(m:ai)(h:v.pure=true)(c:jf):jf:=lk k .g (⟨h,rfl⟩:v.pure=true∧m=m) c
noncomputable def kSl(k a b:Nat){l:List V}(m:ai)(h:V.jm l=true)(hab:UC a b=true)(c:jf):jf:=lk k .g (⟨h,TF hab,rfl⟩:V.jm l=true∧a≤b∧m=m) c
noncomputable def kV(k:Nat){x:Option V}{v:V}(h:x=some v)(c:jf):jf:=lk k (.v v) h c
noncomputable def kB(k:Nat){x:Option Bool}{b:Bool}(h:x=some b)(c:jf):jf:=lk k (.b b) h c
noncomputable def kL(k:Nat){x:Option (List V)}{l:List V}(h:x=some l)(c:jf):jf:=lk k (.l l) h c
noncomputable def kG(k:Nat){p:Prop}(h:p)(c:jf):jf:=lk k .g h c
noncomputable def Hi(k:Nat){p:Prop}(h:p){x l:List V}(e:x=l)(c:jf):jf:=lk2 k (.l l) h e c
noncomputable def QI(k:Nat){p:Prop}(h:p){x l:List (V×V)}(e:x=l)(c:jf):jf:=lk2 k (.d l) h e c
noncomputable def kO(k:Nat){x:uf V}{v:V}{m:ai}(h:x=.ok v m)(c:jf):jf:=lk k (.o v m) h c
noncomputable def kU(k:Nat){x:uf Unit}{m:ai}(h:x=.ok () m)(c:jf):jf:=lk k (.o .none m) h c
noncomputable def kC(k:Nat){D:tU V}{v:V}{m:ai}(h:aq D v m)(c:jf):jf:=lk k (.c v m) h c
noncomputable def kF(k:Nat){D:tU Fl}{v:Fl}{m:ai}(h:aq D v m)(c:jf):jf:=lk k (.f v m) h c
noncomputable def kR(k:Nat){D:ai→tU V}{v:V}{gs:List (Nat×O)}(h:∀M,b7 gs M→aq (D M) v M)(c:jf):jf:=lk2 k (.r v gs) h (Ue (gs.map (·.2))) c
noncomputable def jE(k:Nat){D:ai→tU V}{l:List V}{gs:List (Nat×O)}(h:∀M,b7 gs M→aq (D M) (.ref M.next) (M.push (.list l)))(c:jf):jf:=lk2 k (.rl l gs) h (Ue (gs.map (·.2))) c
noncomputable def kM(k:Nat){x:ai→uf V}{l:List V}{gs:List (Nat×O)}(h:∀M,b7 gs M→x M=.ok (.ref M.next) (M.push (.list l)))(c:jf):jf:=lk2 k (.rl l gs) h (Ue (gs.map (·.2))) c
noncomputable def kMr(k:Nat){x:ai→uf V}{v:V}{gs:List (Nat×O)}(h:∀M,b7 gs M→x M=.ok v M)(c:jf):jf:=lk2 k (.r v gs) h (Ue (gs.map (·.2))) c
noncomputable def kX(k:Nat){D:tU V}{m:ai}(h:D (λ_ _=>False) λm₂=>m₂=m)(c:jf):jf:=lk k (.x m) h c
noncomputable def kQ(k:Nat){D:tU V}{Q R:V→ai→Prop}(h:D Q fy)(r:∀v m,Q v m→R v m):jf:=[⟨k,.q Q,λ_=>D Q fy∧∀v m,Q v m→∃sc:Sc,R v m,λ_ _=>⟨h,λv m q=>⟨[],r v m q⟩⟩⟩]
noncomputable def kQs(k:Nat){D:tU V}{Q:V→ai→Prop}{R:V→ai→Sc→Prop}(h:D Q fy)(r:∀v m,Q v m→∃sc,R v m sc):jf:=[⟨k,.q Q,λ_=>D Q fy∧∀v m,Q v m→∃sc,R v m sc,λ_ _=>⟨h,r⟩⟩]
noncomputable def kQf(k:Nat){D:tU Fl}{Q:Fl→ai→Prop}{R:Fl→ai→Sc→Prop}(h:D Q fy)(r:∀v m,Q v m→∃sc,R v m sc):jf:=[⟨k,.qf Q,λ_=>D Q fy∧∀v m,Q v m→∃sc,R v m sc,λ_ _=>⟨h,r⟩⟩]
end
section
variable{n:Nat}{f:Fn}{vs:List V}{m m₁:ai}{v:V}{F:Prop}{Q:V→ai→Prop}{X:ai→Prop}
theorem gD(hf:f.ok=true)(c:jf)(hF:F)(e:Ak F c=qJ n f vs (xY c) m (λv _ m'=>Q v m') X:=by kernel_rfl):aE n f vs m Q X:=aE.of hf _ (cast e (mz c hF))
theorem gQ(hf:f.ok=true)(c:jf)(e:Ak True c=qJ n f vs (xY c) m (λv _ m'=>Q v m') X:=by kernel_rfl):aE n f vs m Q X:=gD hf c trivial e
theorem gF(hf:f.ok=true)(c:jf)(e:Ak (v=v∧m₁=m₁) c=qJ n f vs (xY c) m (λv' _ m'=>v'=v∧m'=m₁) fy:=by kernel_rfl):aq (aE n f vs m) v m₁:=aE.of hf _ (cast e (mz c ⟨rfl,rfl⟩))
theorem gS(hf:f.ok=true)(hv:v.pure=true)(c:jf)(e:Ak ((v.pure=true∧m=m)∧v=v∧m=m) c=qJ n f vs (xY c) m (λv' _ m'=>v'=v∧m'=m) fy:=by kernel_rfl):aq (aE n f vs m) v m:=aE.of hf _ (cast e (mz c ⟨⟨hv,rfl⟩,rfl,rfl⟩))
theorem gN{l:List V}(a:Nat)(hf:f.ok=true)(hv:V.jm l=true)(ha:UC m.length a=true)(c:jf)(e:Ak ((V.jm l=true∧m.length≤a∧m=m)∧V.ref m.next=.ref m.next∧m.push (.list l)=m.push (.list l)) c=qJ n f vs (xY c) m (λv' _ m'=>v'=.ref m.next∧m'=m.push (.list l)) fy:=by kernel_rfl):aq (aE n f vs m) (.ref m.next) (m.push (.list l)):=
 aE.of hf _ (cast e (mz c ⟨⟨hv,TF ha,rfl⟩,rfl,rfl⟩))
theorem gX(hf:f.ok=true)(c:jf)(e:Ak (m₁=m₁) c=qJ n f vs (xY c) m (λ_ _ _=>False) λm'=>m'=m₁:=by kernel_rfl):aE n f vs m (λ_ _=>False) λm'=>m'=m₁:=aE.of hf _ (cast e (mz c rfl))
end
theorem O8{α β:Type}{L R:α→β}{l:List α}(h:l.map L=l.foldr (λa t=>R a::t) []):∀x,x∈l→L x=R x:=by
 induction l with
 |nil=>exactλ_ m=>nomatch m
 |cons a l ih=>
  obtain⟨h1,h2⟩:=Xe h;intro x m;rcases SO.mp m with rfl|m
  ·exact h1
  ·exact ih h2 x m
noncomputable def bQ(l:List Nat)(N:Nat)(i:Nat):Nat:=(l[i]?).getD (N+(i-l.length))
theorem ajR{l:List Nat}{N i:Nat}(h:i<l.length):∃a,l[i]? =some a∧bQ l N i=a:=⟨l[i],S6 h,by unfold bQ;rw[S6 h];rfl⟩
theorem Cz{l:List Nat}{N i:Nat}(h:l.length≤i):bQ l N i=N+(i-l.length):=by unfold bQ;rw[Vc h];rfl
noncomputable def wk:List Nat→Bool
 |[]=>true
 |a::l=>l.all (λb=> !Nat.beq a b)&&wk l
theorem abi{l:List Nat}(h:wk l=true):l.Nodup:=by
 induction l with
 |nil=>exact Vl
 |cons a l ih=>
  obtain⟨h1,h2⟩:=Sn.mp h;refine Ui.mpr ⟨λm=> ?_,ih h2⟩;have:=S9.mp h1 a m;rw[show SA a a=true from Vz a] at this;exact gg this
theorem Em.at_{gs gl:List (Nat×O)}{ms M:ai}(h:b7 gl M)(hgl:gs.filter (λp=>p.2.live)=gl)(nd:wk (gl.map (·.1))=true)(e:ms.map (O.bM (bQ (gs.map (·.1)) M.length))=gs.map (·.2))(bd:∀p∈gs,∃q∈gl,p.1≤q.1):Em (bQ (gs.map (·.1)) M.length) ms M:=by
 have len:ms.length=gs.length:=by have:=bk Vx e;rwa [Sy,Sy] at this
 have at_:∀i (hi:i<gs.length),bQ (gs.map (·.1)) M.length i=gs[i].1:= λi hi=>by unfold bQ;rw[Tz,S6 hi];rfl
 have ob:∀i (hi:i<gs.length) o,ms.get i=some o→o.bM (bQ (gs.map (·.1)) M.length)=gs[i].2:= λi hi o ho=>by have q:=bk (·[i]?) e;simp only[Tz,S6 hi] at q;rw[show ms[i]? =some o from ho] at q;exact SN q
 have got:∀p∈gl,M.get p.1=some p.2:= λp hp=>by
  obtain⟨i,hi,rfl⟩:=X0.mp hp;have q:=bk (·[i]?) h;simp only[Tz,S6 hi,Xf,aq0] at q;have l:gl[i].2.live=true:=(Ux.mp (show gl[i]∈gs.filter (λp=>p.2.live) by rw[hgl];exact hp)).2;cases g:M.get gl[i].1 with
  |none=>rw[g] at q;rw[q] at l;exact gg l
  |some o=>rw[g] at q;rw[q];rfl
 have lv:∀i (hi:i<gs.length),gs[i].2.live=true→gs[i]∈gl:= λi hi l=>hgl▸Ux.mpr ⟨Vf hi,l⟩;have of:∀a,ms.live a=true→∃hi:a<gs.length,gs[a].2.live=true:= λa ha=>by obtain⟨o,ho,l⟩:=ai.iu ha;have hi:=len▸ai.fL ho;exact⟨hi,by rw[←ob a hi o ho,O.i0];exact l⟩
 refine⟨λa ha=> ?_,λa ha=> ?_,λa o ho l=> ?_,λa b ha hb q=> ?_⟩
 ·have ha:=len▸ha
  obtain⟨q,hq,le⟩:=bd _ (Vf ha);rw[at_ a ha];exact Sz le (ai.fL (got q hq))
 ·rw[Cz (by rw[Sy,←len];exact ha),Sy,len]
 ·have ha:=len▸ai.fL ho
  have q:=ob a ha o ho;rw[at_ a ha,q];exact got _ (lv a ha (by rw[←q,O.i0];exact l))
 ·obtain⟨ha,la⟩:=of a ha
  obtain⟨hb,lb⟩:=of b hb;rw[at_ a ha,at_ b hb] at q;have nd:((gs.filter (λp=>p.2.live)).map (·.1)).Nodup:=hgl.symm▸abi nd;have pw:gs.Pairwise λp r=>p.2.live=true→r.2.live=true→p.1≠r.1:=by rw[apY,Zl,apZ] at nd;exact nd
  rcases ap0 a b with c|c|c
  ·exact absurd q (VN.mp pw a b ha hb c la lb)
  ·exact c
  ·exact absurd q.symm (VN.mp pw b a hb ha c lb la)
theorem Em.of{gs:List (Nat×O)}{ms M:ai}(h:b7 gs M)(nd:wk (gs.map (·.1))=true)(e:ms.map (O.bM (bQ (gs.map (·.1)) M.length))=gs.map (·.2))(hl:gs.all (λp=>p.2.live)=true):Em (bQ (gs.map (·.1)) M.length) ms M:=
 Em.at_ h (ap1.mpr (S9.mp hl)) nd e λp hp=>⟨p,hp,SQ _⟩
theorem abv{gs gl:List (Nat×O)}(h:(gs.all λp=>gl.any λq=>UC p.1 q.1)=true):∀p∈gs,∃q∈gl,p.1≤q.1:= λp hp=>
 let⟨q,hq,e⟩:=Y9.mp (S9.mp h p hp)
 ⟨q,hq,TF e⟩
section
variable{n:Nat}{g:Fn}{vs l:List V}{v:V}{f:Nat→Nat}{ms M:ai}
theorem xm.refl(E:Em f ms M):xm f ms M ms M:=⟨E,by rw[Wi];rfl,λ_ _ _=>rfl,λa ha h=>absurd (ai.ef h) (by rw[E.hi a ha];exact TL.mpr (SV _ _))⟩
theorem xm.app(E:Em f ms M)(ex:ai):xm f ms M (ms++ex) (M++ex.map (O.bM f)):=by
 have hi:∀a,ms.length≤a→(ms++ex).get a=ex[a-ms.length]? ∧(M++ex.map (O.bM f)).get (f a)=(ex[a-ms.length]?).map (O.bM f):= λa h=>⟨X3 h,by rw[E.hi a h];refine(X3 (SV _ _)).trans ?_;rw[VM,Tz]⟩
 have lo:∀a,a<ms.length→(ms++ex).get a=ms.get a∧(M++ex.map (O.bM f)).get (f a)=M.get (f a):= λa h=>⟨Ve h,Ve (E.lo a h)⟩;have l1:(ms++ex).length=ms.length+ex.length:=S4;have l2:(M++ex.map (O.bM f)).length=M.length+ex.length:=by rw[S4,Sy]
 have lv:∀a,a<ms.length→(ms++ex).live a=ms.live a:= λa h=>ai.lV (lo a h).1;have off:∀a b,a<ms.length→ms.length≤b→f a≠f b:= λa b h h' e=>absurd (E.lo a h) (by rw[e,E.hi b h'];exact TL.mpr (SV _ _));refine⟨⟨λa ha=> ?_,λa ha=> ?_,λa o e l=> ?_,λa b ha hb e=> ?_⟩,by rw[l1,l2,VM],λb hb _=>Ve hb,λa ha h=> ?_⟩
 ·rw[l1] at ha
  rw[l2];by_cases c:a<ms.length
  ·exact SX (E.lo a c) (SV _ _)
  ·rw[E.hi a (SS c)];exact XZ (Nat.sub_lt_left_of_lt_add (SS c) ha) _
 ·rw[l1] at ha
  rw[l1,l2,E.hi a (SG (SV _ _) ha),UN,Nat.sub_add_eq,UJ (Nat.le_sub_of_add_le' ha)]
 ·by_cases c:a<ms.length
  ·exact(lo a c).2.trans (E.get a o ((lo a c).1.symm.trans e) l)
  ·obtain⟨h1,h2⟩:=hi a (SS c)
   rw[h2,h1.symm.trans e];rfl
 ·by_cases c:a<ms.length<;>by_cases d:b<ms.length
  ·exact E.inj a b ((lv a c).symm.trans ha) ((lv b d).symm.trans hb) e
  ·exact absurd e (off a b c (SS d))
  ·exact absurd e.symm (off b a d (SS c))
  ·rw[E.hi a (SS c),E.hi b (SS d)] at e
   exact BK (SS c) (SS d) e
 ·obtain⟨o,e,l⟩:=ai.iu h
  obtain⟨h1,h2⟩:=hi a ha;rw[h2] at e;obtain⟨o',e',rfl⟩:=X4.mp e;exact ai.dg (h1.trans e') ((O.i0 f o').symm.trans l)
theorem tH{ex:ai}(h:aq (aE n g vs ms) v (ms++ex))(E:Em f ms M):aq (aE n g (V.fW f vs) M) (v.bM f) (M++ex.map (O.bM f)):=
 aE.frame h E (λv' dW q _=>⟨M++ex.map (O.bM f),by rw[q.2];exact .app E ex,by rw[q.1];exact⟨rfl,rfl⟩⟩) λ_ h=>h.elim
theorem Ko{ex:ai}(h:aE n g vs ms (λ_ _=>False) λm'=>m'=ms++ex)(E:Em f ms M):aE n g (V.fW f vs) M (λ_ _=>False) λm'=>m'=M++ex.map (O.bM f):=
 aE.frame h E (λ_ _ h _=>h.elim) λm' q=>⟨M++ex.map (O.bM f),by rw[q];exact .app E ex,rfl⟩
theorem eB(h:aq (aE n g vs ms) v ms)(E:Em f ms M):aq (aE n g (V.fW f vs) M) (v.bM f) M:=
 aE.frame h E (λv' dW q _=>⟨M,by rw[q.2];exact .refl E,by rw[q.1];exact⟨rfl,rfl⟩⟩) λ_ h=>h.elim
theorem rM(h:aq (aE n g vs ms) (.ref ms.next) (ms.push (.list l)))(E:Em f ms M)(hl:V.fW f l=l):aq (aE n g (V.fW f vs) M) (.ref M.next) (M.push (.list l)):=by
 have k:=tH (ex:=[.list l]) h E;rw[show[O.list l].map (O.bM f)=[.list l] from bk (λl=>[O.list l]) hl,show(V.ref ms.next).bM f=.ref M.next from bk V.ref (by rw[show ms.next=ms.length from rfl,E.hi _ (SQ _),Wi];rfl)] at k
 exact k
end
theorem pL{α:Type}{c:α→V}(f:Nat→Nat)(h:∀a,(c a).bM f=c a)(l:List α):V.fW f (l.map c)=l.map c:=by
 induction l with
 |nil=>rfl
 |cons a l ih=>show _::_=_;rw[ih,h];rfl
end
section
theorem IQ(f:Nat→Nat):∀(e:List V) (k:Nat) (v:V),fj e k=some v→fj (V.fW f e) k=some (v.bM f):= λe=>by
 induction e with
 |nil=>exactλk v h=>nomatch h
 |cons x e ih=>
  intro k v h;cases k with
  |succ k=>exact ih k v h
  |zero=>cases x<;>first|exact no h|exact(SN h)▸rfl
theorem Mv.cut{m ex:ai}{e:List V}(k:Nat)(hk:m.length=k)(hc:m.map (O.bM (bQ (Sw k) (m++ex).length))=m)(he:V.fW (bQ (Sw k) (m++ex).length) e=e):Mv k (bQ (Sw k) (m++ex).length) e (m++ex) e m:=by
 have lo:∀i,i<k→bQ (Sw k) (m++ex).length i=i:= λi h=>by unfold bQ;rw[Wj h];rfl
 have le:m.length≤(m++ex).length:=by rw[S4];exact SV _ _
 subst hk;refine⟨⟨λa h=>by rw[lo a h];exact SX h le,λa h=>by rw[Cz (by rw[Uz];exact h),Uz],λa o h _=> ?_,λa b ha hb q=> ?_⟩,lo,SQ _,λa h hl=>(ai.lV (Ve h)).symm.trans hl,λa h h'=>absurd h' (TL.mpr h),λi v h=>by have:=IQ (bQ (Sw m.length) (m++ex).length) e i v h;rwa [he] at this⟩
 ·rw[lo a (ai.fL h)]
  have q:=bk (·[a]?) hc;simp only[Tz] at q;rw[show m[a]? =some o from h] at q;exact(Ve (ai.fL h)).trans (h.trans q.symm)
 ·rwa [lo a (ai.ef ha),lo b (ai.ef hb)] at q
section
variable{n:Nat}{t:nO}{body:Ss}{bf:List Nat}{v x:V}{bD env vX:List V}{m m':ai}{sc:Sc}{cs:Es}{el:E}{y:Option V}
def i9(n:Nat)(t:nO)(body:Ss)(bf:List Nat)(v:V)(bD:List V)(x:V)(env:List V)(m:ai)(vX:List V)(m':ai):Prop:=
 ∃sc,∀(J:List V→ai→Prop) (r:V→Sc→ai→Prop),J vX m'→jK t (λenv sc m k=>rX (qn n) body env sc m k λ_=>False) v bD bf (λ_ e _ m₁=>J e m₁) r x [] env m sc
theorem JN{P:Prop→Prop}(h:∀F,Ch sc (P F) F)(e:∀(J:List V→ai→Prop) (r:V→Sc→ai→Prop),P (J vX m')=jK t (λenv sc m k=>rX (qn n) body env sc m k λ_=>False) v bD bf (λ_ e _ m₁=>J e m₁) r x [] env m sc):i9 n t body bf v bD x env m vX m':=
 ⟨sc,λJ r hJ=>cast (e J r) (h _ hJ)⟩
def Pb(n:Nat)(e:E)(body:Ss)(bf:List Nat)(env:List V)(m:ai)(vX:List V)(m':ai):Prop:=
 ∃sc,∀(i:Nat) (J:Nat→List V→ai→Prop) (Q:Fl→ai→Prop),(∃j,j<i∧J j vX m')→sA (λenv sc m=>rE (qn n) env e sc m) (λenv sc m k=>rX (qn n) body env sc m k λ_=>False) bf J Q i env m sc
theorem goW{n:Nat}{e:E}{body:Ss}{bf:List Nat}{env vX:List V}{m m':ai}{sc:Sc}{P:Prop→Prop}(h:∀F,Ch sc (P F) F)(q:∀(i:Nat) (J:Nat→List V→ai→Prop) (Q:Fl→ai→Prop),P (∃j,j<i∧J j vX m')=sA (λenv sc m=>rE (qn n) env e sc m) (λenv sc m k=>rX (qn n) body env sc m k λ_=>False) bf J Q i env m sc):Pb n e body bf env m vX m':=
 ⟨sc,λi J Q hJ=>cast (q i J Q) (h _ hJ)⟩
theorem gL{vX:List V}{m':ai}(c:jf)(e:∀(J:List V→ai→Prop) (r:V→Sc→ai→Prop),Ak (J vX m') c=jK t (λenv sc m k=>rX (qn n) body env sc m k λ_=>False) v bD bf (λ_ e _ m₁=>J e m₁) r x [] env m (xY c):=by exactλ_ _=>by kernel_rfl):i9 n t body bf v bD x env m vX m':=
 ⟨xY c,λJ r hJ=>cast (e J r) (mz c hJ)⟩
def ahq(n:Nat)(e:E)(body:Ss)(bf:List Nat)(env:List V)(m:ai):Prop:=
 ∃sc,∀(i:Nat) (J:Nat→List V→ai→Prop) (Q:Fl→ai→Prop),Q (.next env) m→sA (λenv sc m=>rE (qn n) env e sc m) (λenv sc m k=>rX (qn n) body env sc m k λ_=>False) bf J Q i env m sc
noncomputable def RT{α:Type}(ys:List α)(y:Option α):List α:=match y with
 |some v=>ys++[v]
 |none=>ys
def AJ(n:Nat)(t:nO)(cs:Es)(el:E)(env:List V)(v:V)(bD:List V)(x:V)(m:ai)(y:Option V)(m':ai):Prop:=
 ∃sc,∀(J:List V→ai→Prop) (ys:List V),J (RT ys y) m'→uz t env (λenv sc m k _=>rT (qn n) env cs sc m k) (λenv=>rE (qn n) env el) v bD (λ_ ys _ m=>J ys m) x [] ys m sc
theorem goC{P:Prop→Prop}(h:∀F,Ch sc (P F) F)(e:∀(J:List V→ai→Prop) (ys:List V),P (J (RT ys y) m')=uz t env (λenv sc m k _=>rT (qn n) env cs sc m k) (λenv=>rE (qn n) env el) v bD (λ_ ys _ m=>J ys m) x [] ys m sc):AJ n t cs el env v bD x m y m':=
 ⟨sc,λJ ys hJ=>cast (e J ys) (h _ hJ)⟩
theorem gC(c:jf)(e:∀(J:List V→ai→Prop) (ys:List V),Ak (J (RT ys y) m') c=uz t env (λenv sc m k _=>rT (qn n) env cs sc m k) (λenv=>rE (qn n) env el) v bD (λ_ ys _ m=>J ys m) x [] ys m (xY c):=by exactλ_ _=>by kernel_rfl):AJ n t cs el env v bD x m y m':=
 ⟨xY c,λJ ys hJ=>cast (e J ys) (mz c hJ)⟩
end
section
variable{α β:Type}{c:β→V}{l:List β}{M:α→ai}{step:α→β→α}{I:α→List β→Prop}{a:α}{n k:Nat}{t:nO}{v:V}
theorem WhC.run{e:E}{body:Ss}{bf:List Nat}{E:Nat→List V}{M:Nat→ai}(a b:Nat)(hab:a≤b)(turn:∀k,a≤k→k<b→Pb n e body bf (E k) (M k) (E (k+1)) (M (k+1)))(fin:ahq n e body bf (E b) (M b)):aq (WhC n e body bf (E a) (M a)) (.next (E b)) (M b):=
 WhC.intro (J:= λj env m=> ∃k,a≤k∧k≤b∧j=b-k∧env=E k∧m=M k) (k:=b-a) ⟨a,SQ _,hab,rfl,rfl,rfl⟩ λj env m ⟨k,h1,h2,e1,e2,e3⟩=>by
  subst e1 e2 e3;rcases ap2 h2 with c|rfl
  ·obtain⟨sc,T⟩:=turn k h1 c
   exact⟨sc,T _ _ _ ⟨b-(k+1),XR c (T3 k),k+1,Th h1,c,rfl,rfl,rfl⟩⟩
  ·obtain⟨sc,T⟩:=fin
   exact⟨sc,T _ _ _ ⟨rfl,rfl⟩⟩
def Nx(k:Nat)(v:V)(bD e:List V)(m:ai)(e':List V)(m':ai):Prop:=(e=e'∧m=m')∨ ∃mu,Mv k mu e m e' m'∧v.bM mu=v∧aO v m'=some bD
theorem Nx.cut{v:V}{bD e:List V}{m ex:ai}(k:Nat)(hk:m.length=k)(hc:∀N,m.map (O.bM (bQ (Sw k) N))=m)(he:∀N,V.fW (bQ (Sw k) N) e=e)(hv:∀N,v.bM (bQ (Sw k) N)=v)(hi:aO v m=some bD):Nx k v bD e (m++ex) e m:=
 .inr ⟨_,Mv.cut k hk (hc _) (he _),hv _,hi⟩
theorem sY{β:Type}:∀(xs a:List β),xs.foldl (λa x=>a++[x]) a=a++xs:= λxs=>by
 induction xs with
 |nil=>exactλa=>(UU a).symm
 |cons x xs ih=>exactλa=>by rw[List.foldl_cons,ih,Ud];rfl
theorem rO.A6{body:Ss}{bf:List Nat}{E:α→List V}(hi:aO v (M a)=some (l.map c))(hI:I a l)(ek:∀a,cC bf (E a)=E a)
  (turn:∀a' x xs,I a' (x::xs)→I (step a' x) xs∧∃e m,i9 n t body bf v (l.map c) (c x) (E a') (M a') e m∧Nx k v (l.map c) e m (E (step a' x)) (M (step a' x))) (hk:(M a).length=k):
  aq (rO n t body bf (E a) v (M a)) (.next (E (l.foldl step a))) (M (l.foldl step a)):=
 let J:List V→List V→ai→Prop:= λl' env m=> ∃(b:α) (xs:List β),l'=xs.map c∧(I b xs∧xs.foldl step b=l.foldl step a)∧env=E b∧m=M b
 rO.intro (J:=J) hi ⟨a,l,rfl,⟨hI,rfl⟩,rfl,rfl⟩
  (λx l' env m ⟨b,xs,e1,h,e2,e3⟩=>by
   subst e2 e3;cases xs with
   |nil=>exact nomatch e1
   |cons y ys=>
    cases e1;obtain⟨h',e₁,m₁,⟨sc,T⟩,g⟩:=turn b y ys h.1;refine⟨sc,T (λe m=>J (ys.map c) e m∨Jc (M a).length v (l.map c) (λl env _ m=>J l env m) (ys.map c) e [] m) (λx _ m=>kOk (Fl.next (E (l.foldl step a))) (M (l.foldl step a)) (Fl.ret x) m) ?_⟩
    have q:J (ys.map c) (E (step b y)) (M (step b y)):=⟨_,ys,rfl,⟨h',h.2⟩,rfl,rfl⟩;exact g.elim (λg=> .inl (g.1▸g.2▸q)) λ⟨mu,g1,g2,g3⟩=> .inr ⟨mu,_,_,hk.symm▸g1,g2,g3,q⟩)
  λenv m ⟨b,xs,e1,h,e2,e3⟩=>by
   cases xs with
   |nil=>subst e2 e3;rw[ek,←h.2];exact⟨rfl,rfl⟩
   |cons y ys=>exact nomatch e1
theorem rO.nj{body:Ss}{bf:List Nat}{E:α→List V}(hi:aO v (M a)=some (l.map c))(hI:I a l)(ek:∀a,cC bf (E a)=E a)
  (turn:∀a x xs,I a (x::xs)→I (step a x) xs∧i9 n t body bf v (l.map c) (c x) (E a) (M a) (E (step a x)) (M (step a x))):
  aq (rO n t body bf (E a) v (M a)) (.next (E (l.foldl step a))) (M (l.foldl step a)):=
 rO.A6 hi hI ek (λa' x xs h=>⟨(turn a' x xs h).1,_,_,(turn a' x xs h).2,.inl ⟨rfl,rfl⟩⟩) rfl
theorem pq.nj{cs:Es}{el:E}{env:List V}{g:α→β→Option V}{out:α→List V}(hi:aO v (M a)=some (l.map c))(hl:l.length<ay)(hI:I a l)(h0:out a=[])
  (turn:∀a x xs,I a (x::xs)→I (step a x) xs∧out (step a x)=RT (out a) (g a x)∧AJ n t cs el env v (l.map c) (c x) (M a) (g a x) (M (step a x))) (fin:∀a,I a []→(out a).length<ay):
  aq (pq n t cs el env v (M a)) (.ref (M (l.foldl step a)).next) ((M (l.foldl step a)).push (.list (out (l.foldl step a)))):=
 let J:List V→List V→ai→Prop:= λl' ys m=> ∃(b:α) (xs:List β),l'=xs.map c∧ys=out b∧m=M b∧I b xs∧xs.foldl step b=l.foldl step a
 pq.intro (J:=J) hi (by rw[Sy];exact hl) ⟨a,l,rfl,h0.symm,rfl,hI,rfl⟩
  (λx l' ys m ⟨b,xs,e1,e2,e3,h,e⟩=>by
   subst e2 e3;cases xs with
   |nil=>exact nomatch e1
   |cons y ys=>
    cases e1;obtain⟨h',e4,sc,T⟩:=turn b y ys h;exact⟨sc,T (J (ys.map c)) (out b) ⟨_,ys,rfl,e4.symm,rfl,h',e⟩⟩)
  λys m ⟨b,xs,e1,e2,e3,h,e⟩=>by
   cases xs with
   |nil=>subst e2 e3;rw[←e];exact⟨fin b h,rfl,rfl⟩
   |cons y ys=>exact nomatch e1
theorem pq.fm{cs:Es}{el:E}{env:List V}{m:ai}{g:β→Option V}(hi:aO v m=some (l.map c))(hl:l.length<ay)
  (turn:∀x,x∈l→AJ n t cs el env v (l.map c) (c x) m (g x) m):aq (pq n t cs el env v m) (.ref m.next) (m.push (.list (l.filterMap g))):=by
 have key:=pq.nj (n:=n) (t:=t) (cs:=cs) (el:=el) (env:=env) (v:=v) (c:=c) (l:=l) (α:=List β) (a:=[]) (M:= λ_=>m) (step:= λa x=>a++[x]) (I:= λa xs=>l=a++xs) (g:= λ_ x=>g x) (out:= λa=>a.filterMap g) hi hl rfl rfl
  (λa x xs h=>⟨by rw[h,Ud];rfl,(List.filterMap_append ..).trans (by rw[X5];cases g x<;>first|rfl|exact UU _),turn x (by rw[h];exact Vm _ SI)⟩)
  λa h=>Sz (List.length_filterMap_le g a) (by rw[h,UU] at hl;exact hl)
 rw[sY] at key;exact key
theorem pq.zp{cs:Es}{el:E}{env:List V}{m:ai}{g:β→Option Int}(hi:aO v m=some (l.map c))(hl:l.length<ay)
  (turn:∀x,x∈l→AJ n t cs el env v (l.map c) (c x) m ((g x).map .int) m):aq (pq n t cs el env v m) (.ref m.next) (m.push (.list ((l.filterMap g).map .int))):=by
 have h:=pq.fm hi hl turn;rw[show l.filterMap (λx=>(g x).map V.int)=(l.filterMap g).map .int from(List.map_filterMap ..).symm] at h;exact h
end
end
section
noncomputable def Ss.LG:Ss→Nat→S
 |.zn,_=> .stuck
 |.zc s ss,i=>match i with
  |0=>s
  |i+1=>ss.LG i
noncomputable def S.body:S→Ss
 |.iH _ _ b _=>b
 |.rR _ b _=>b
 |.cO _ t _=>t
 |_=> .zn
noncomputable def S.ex:S→E
 |.ret e=>e
 |.expr e=>e
 |.assign _ e=>e
 |.cO c _ _=>c
 |_=> .stuck
noncomputable def Es.LG:Es→Nat→E
 |.zn,_=> .stuck
 |.zc s ss,i=>match i with
  |0=>s
  |i+1=>ss.LG i
noncomputable def E.arg:E→Nat→E
 |.bi _ l,i=>l.LG i
 |.call _ l,i=>l.LG i
 |.aU _ _ _ _ l,i=>l.LG i
 |.list l,i=>l.LG i
 |_,_=> .stuck
noncomputable def E.el:E→E
 |.comp _ _ _ e=>e
 |_=> .stuck
noncomputable def E.lf:E→E
 |.cmp _ a _=>a
 |.cW _ a _=>a
 |.not a=>a
 |_=> .stuck
noncomputable def E.rt:E→E
 |.cmp _ _ b=>b
 |.cW _ _ b=>b
 |_=> .stuck
noncomputable def E.cs:E→Es
 |.comp _ _ c _=>c
 |_=> .zn
noncomputable abbrev aY(f:Fn)(i:Nat):S:=(prog f).body.LG i
noncomputable def zC(n:Nat)(s:S)(env:List V)(v:V)(m:ai):tU Fl:=match s with
 |.iH t _ b k=>rO n t b k env v m
 |_=> λ_ _=>False
noncomputable def WhS(n:Nat)(s:S)(env:List V)(m:ai):tU Fl:=match s with
 |.rR c b k=>WhC n c b k env m
 |_=> λ_ _=>False
noncomputable def vM(n:Nat)(e:E)(env:List V)(v:V)(m:ai):tU V:=match e with
 |.comp t _ cs el=>pq n t cs el env v m
 |_=> λ_ _=>False
namespace L
noncomputable abbrev vi(l:List Int):List V:=l.map .int
noncomputable abbrev aj(l:List Int):O:= .list (vi l)
section
variable{m:ai}{a b:Nat}{x:V}{l:List V}
theorem sj{α:Type}{a b:α}(h:a=b):some a=some b:=bk some h
theorem m9(l:List Int):jx (vi l)=some l:=by
 induction l with
 |nil=>rfl
 |cons x l ih=>show(jx (vi l)).map (x:: ·)=_;rw[ih];rfl
theorem eO(l:List Int):V.jm (vi l)=true:=by
 induction l with
 |nil=>rfl
 |cons x l ih=>exact ih
theorem ec{f:Nat→Nat}{a a':O}{l l':List O}(h:O.bM f a=a')(t:l.map (O.bM f)=l'):(a::l).map (O.bM f)=a'::l':=by rw[TV,h,t]
theorem az(f:Nat→Nat)(l:List Int):O.bM f (aj l)=aj l:=bk O.list (pL f (λ_=>rfl) l)
theorem rP(f:Nat→Nat)(l:List Int):V.fW f (vi l)=vi l:=pL f (λ_=>rfl) l
theorem HO(l:List Int)(x:Int):vi l++[.int x]=vi (l++[x]):=(TA (l₂:=[x])).symm
theorem zf(m:ai)(a:Nat){l:List Int}(hl:l.length<64)(h:m.get a=some (aj l)):eT (.ref a) m=.ok (.ref m.next) (m.push (aj (aB l))):=by unfold eT;show(m.get a).bind _=_;rw[h];show(jx (vi l)).bind _=_;rw[m9];exact aG hl
theorem kJ(hl:l≠[]):some (!l.isEmpty)=some true:=by
 cases l with
 |nil=>exact absurd rfl hl
 |cons=>rfl
theorem ahb(hl:l=[]):some (!l.isEmpty)=some false:=by rw[hl];rfl
theorem AS(hl:l≠[]):some l.isEmpty=some false:=by
 cases l with
 |nil=>exact absurd rfl hl
 |cons=>rfl
theorem vD{α:Type}(l:List α)(x:α):bA (l++[x]) (-1)=some x:=by
 unfold bA;have h:0≤(-1:Int)+((l++[x]).length:Int):=by rw[S4,ap3];omega
 have:((-1:Int)+((l++[x]).length:Int)).toNat=l.length:=by rw[S4,ap3];omega
 rw[aJ (by decide),aJ (by decide),aG h,this,ZK]
theorem PG(a b:Int)(m:ai):om (.int a) (.int b) m=some (decide (a=b)):=by have e:decide (V.int a=.int b)=decide (a=b):=decide_eq_decide.mpr ⟨λh=>V.int.inj h,bk _⟩;show some (decide (V.int a=.int b))=_;rw[e]
theorem aT{i j:Int}{r:Bool}(h:decide (i=j)=r):om (.int i) (.int j) []=some r:=(PG i j []).trans (bk some h)
theorem qL{i j:Int}{r:Bool}(h:decide (i=j)=r):(om (.int i) (.int j) []).map (! ·)=some (!r):=bk (Ua (! ·)) (aT h)
end
end L
end
end cT
namespace cT.L
section
noncomputable def vQ(out:List Int)(x:Int):List Int:=if out.getLast?=some x then out else out++[x]
noncomputable def zG(l:List Int):List Int:=(aB l).foldl vQ []
theorem kT(l:List Int):(aB l).length=l.length:=by
 have ins:∀(x:Int) (l:List Int),(b8 x l).length=l.length+1:= λx l=>by
  induction l with
  |nil=>rfl
  |cons y l ih=>
   unfold b8
   split
   ·rfl
   ·exact bk UE ih
 induction l with
 |nil=>rfl
 |cons x l ih=>exact(ins x _).trans (bk UE ih)
section
variable(n:Nat)
theorem Pe{l₀ l out:List Int}{x:Int}(h:out.length<64):i9 n (.aA 2) (aY .gq 1).body [2] (.ref 2) (vi l) (.int x) [.ref 0,.ref 1,.af] [aj l₀,aj out,aj l] [.ref 0,.ref 1,.af] [aj l₀,aj (vQ out x),aj l]:=by
 have hs:out.length<1048576:=by omega
 rcases ap4 out with rfl|⟨o,y,rfl⟩
 ·exact gL (kI 5 (some (vi l))<|kE)
 ·have e1:vi (o.concat y)≠[]:=by rw[Xg];simp
  have e2:bA (vi (o.concat y)) (-1)=some (.int y):=by rw[Xg,←HO];exact vD _ _
  have e4:(vi (o.concat y)).length<ay:=by rw[Sy];exact hs
  by_cases c:y=x
  ·have e3:vQ (o.concat y) x=o.concat y:=aG (by rw[Xg,Zm,c])
   rw[e3];exact gL (kB 0 (kJ e1)<|kV 1 e2<|kB 0 (qL (aC c))<|kI 1 (some (vi l))<|kE)
  ·have e3:vQ (o.concat y) x=o.concat y++[x]:=aJ (by rw[Xg,Zm];exactλh=>c (SN h))
   rw[e3];exact gL (kB 0 (kJ e1)<|kV 1 e2<|kB 0 (qL (aH c))<|Hi 2 e4 (HO (o.concat y) x)<|kI 0 (some (vi l))<|kE)
theorem aao{l₀ l:List Int}(h:l.length<64):aq (zC n (aY .gq 1) [.ref 0,.ref 1,.af] (.ref 2) [aj l₀,aj [],aj l]) (.next [.ref 0,.ref 1,.af]) [aj l₀,aj (l.foldl vQ []),aj l]:=
 rO.nj (c:= .int) (E:= λ_=>[.ref 0,.ref 1,.af]) (M:= λout=>[aj l₀,aj out,aj l]) (step:=vQ) (I:= λout xs=>out.length+xs.length<64) rfl (by simpa using h) (λ_=>rfl) λout x xs hI=>⟨by unfold vQ;split<;>simp at hI⊢ <;>omega,Pe n (by simp at hI;omega)⟩
theorem RG{l:List Int}(h:l.length<64):aq (aE (n+1) .gq [.ref 0] [aj l]) (.ref 1) [aj l,aj (zG l)]:=
 gN 1 rfl (eO (zG l)) rfl (kO 1 ((λm a=>zf m a h) (ai.push [aj l] (O.list [])) 0 rfl)<|kF 0 (aao n (l₀:=l) (l:=aB l) (by rw[kT];exact h))<|gZ 0)
theorem pX(l:List Int)(h:l.length<64)(a:Nat)(M:ai)(g:b7 [(a,aj l)] M):aq (aE (n+1) .gq [.ref a] M) (.ref M.next) (M.push (aj (zG l))):=
 rM (RG n h) (Em.of g rfl (ec (az _ l) rfl) rfl) (rP _ _)
end
end
section
noncomputable abbrev jM(vs:List (Int×Bool)):List (V×V):=vs.map λp=>(.int p.1,.bool p.2)
noncomputable abbrev oB(vs:List (Int×Int)):List (V×V):=vs.map λp=>(.int p.1,.int p.2)
theorem lg(k:V)(p:V×V)(l:List (V×V)):look k (p::l)=if p.1=k then some p.2 else look k l:=by
 unfold look;rw[Yr];by_cases h:p.1=k
 ·rw[aG h,aC h];rfl
 ·rw[aJ h,aH h]
theorem E8{β:Type}(c:β→V)(x:Int)(vs:List (Int×β)):look (.int x) (vs.map λp=>(.int p.1,c p.2))=(vs.lookup x).map c:=by
 induction vs with
 |nil=>rfl
 |cons p vs ih=>
  rw[TV,lg,ih,Tj];by_cases h:p.1=x
  ·rw[aG (bk V.int h),beq_iff_eq.mpr h.symm];rfl
  ·rw[aJ λe=>h (V.int.inj e),beq_eq_false_iff_ne.mpr (Tf h)]
theorem lQ{x:Int}{vs:List (Int×Bool)}{o:Option Bool}(h:vs.lookup x=o):look (.int x) (jM vs)=o.map .bool:=h▸E8 V.bool x vs
theorem yi{x:Int}{vs:List (Int×Int)}{o:Option Int}(h:vs.lookup x=o):look (.int x) (oB vs)=o.map .int:=h▸E8 V.int x vs
theorem j3{k:V}{es:List (V×V)}{o:Option V}(h:look k es=o):some (look k es).isSome=some o.isSome:=bk (λo=>some o.isSome) h
theorem iB{k:V}{es:List (V×V)}{o:Option V}(h:look k es=o):some (!(look k es).isSome)=some (!o.isSome):=bk (λo=>some (!o.isSome)) h
theorem Ph{β:Type}(f:Nat→Nat)(c:β→V)(h:∀b,(c b).bM f=c b)(vs:List (Int×β)):(vs.map λp=>(V.int p.1,c p.2)).map (λe=>(e.1,e.2.bM f))=vs.map λp=>(V.int p.1,c p.2):=by rw[T4];exact Tg λp _=>bk (VO _) (h p.2)
theorem wU(f:Nat→Nat)(vs:List (Int×Bool)):O.bM f (.dict .int (jM vs))=.dict .int (jM vs):=bk (O.dict .int) (Ph f V.bool (λ_=>rfl) vs)
theorem w7(f:Nat→Nat)(vs:List (Int×Int)):O.bM f (.dict .int (oB vs))=.dict .int (oB vs):=bk (O.dict .int) (Ph f V.int (λ_=>rfl) vs)
noncomputable abbrev lk{β:Type}(vs:List (Int×β))(i:Int):Option β:=vs.lookup i
noncomputable def CR(l:List Int)(p:Int→Bool):Bool:=decide (l.length<2*(l.filter p).length)
noncomputable def jV(l:List Int)(p:Int→Bool):Bool:=l.isEmpty||CR l p
noncomputable def kc(g:Int→Option Bool)(i:Int):Bool:=g i==some true
noncomputable def we(g:Int→Option Bool)(i:Int):Bool:=g i !=some false
noncomputable def mv(l:List Int)(g:Int→Option Bool):Int:=if jV l (kc g) then 3 else if jV l (we g) then 1 else 2
noncomputable def vH(g:Int→Option Bool)(a:Nat×Nat)(x:Int):Nat×Nat:=match g x with
 |none=>(a.1,a.2+1)
 |some b=>match b with
  |true=>(a.1+1,a.2)
  |false=>a
theorem ag1(g:Int→Option Bool)(l:List Int):∀a,l.foldl (vH g) a=(a.1+(l.filter (kc g)).length,a.2+(l.filter λi=>(g i).isNone).length):=by
 induction l with
 |nil=>exactλa=>rfl
 |cons x l ih=>
  intro a;have key:∀b:Option Bool,g x=b→l.foldl (vH g) (vH g a x)=(a.1+((x::l).filter (kc g)).length,a.2+((x::l).filter λi=>(g i).isNone).length):= λb e=>by
   rw[ih,T6,T6];unfold vH kc;rw[e]
   match b with
   |none=>exact bk (VO _) (Vg ..)
   |some true=>exact bk (VO · _) (Vg ..)
   |some false=>rfl
  exact key _ rfl
theorem DM(g:Int→Option Bool)(l:List Int):(l.filter (kc g)).length+(l.filter λi=>(g i).isNone).length=(l.filter (we g)).length:=by
 induction l with
 |nil=>rfl
 |cons x l ih=>
  have key:∀b:Option Bool,g x=b→((x::l).filter (kc g)).length+((x::l).filter λi=>(g i).isNone).length=((x::l).filter (we g)).length:= λb e=>by
   rw[T6,T6,T6];unfold kc we at*;rw[e]
   match b with
   |none=>exact bk UE ih
   |some true=>exact(Nat.succ_add ..).trans (bk UE ih)
   |some false=>exact ih
  exact key _ rfl
theorem Dn{l:List Int}{p:Int→Bool}{k:Nat}(b:Bool)(hl:l≠[])(hk:(l.filter p).length=k)(h:jV l p=b):some (decide (Zn ((vi l).length:Int) 2+1≤(k:Int)))=some b:=by
 subst hk;have e:l.isEmpty=false:=by cases l<;>first|exact absurd rfl hl|rfl
 unfold jV CR at h;rw[e,V0] at h;rw[←h,Sy,X6 _ (by decide)];exact bk some (decide_eq_decide.mpr (by omega))
section
variable(n:Nat)
theorem Qg{l:List Int}{vs:List (Int×Bool)}{x:Int}{a:Nat×Nat}:i9 n (.aA 4) (aY .eX 3).body [4] (.ref 0) (vi l) (.int x) [.ref 0,.ref 1,.int a.1,.int a.2,.af,.af] [aj l,.dict .int (jM vs)] [.ref 0,.ref 1,.int (vH (lk vs) a x).1,.int (vH (lk vs) a x).2,.af,.af] [aj l,.dict .int (jM vs)]:=by
 obtain⟨g,ms⟩:=a;unfold vH;generalize e:lk vs x=o;have q:=lQ e
 match o with
 |none=>exact gL (kB 0 (iB q)<|kI 2 (some (vi l))<|kE)
 |some true=>exact gL (kB 0 (iB q)<|kV 1 q<|kI 2 (some (vi l))<|kE)
 |some false=>exact gL (kB 0 (iB q)<|kV 1 q<|kI 1 (some (vi l))<|kE)
theorem Hj(l:List Int)(vs:List (Int×Bool)):aq (zC n (aY .eX 3) [.ref 0,.ref 1,.int 0,.int 0,.af,.af] (.ref 0) [aj l,.dict .int (jM vs)])
  (.next [.ref 0,.ref 1,.int (l.filter (kc (lk vs))).length,.int (l.filter λi=>(lk vs i).isNone).length,.af,.af]) [aj l,.dict .int (jM vs)]:=by
 have h:=rO.nj (n:=n) (t:= .aA 4) (v:= .ref 0) (body:=(aY .eX 3).body) (bf:=[4]) (c:=V.int) (l:=l) (a:=(0,0)) (E:= λa:Nat×Nat=>[.ref 0,.ref 1,.int a.1,.int a.2,.af,.af]) (M:= λ_=>[aj l,.dict .int (jM vs)]) (step:=vH (lk vs)) (I:= λ_ _=>True) rfl trivial (λ_=>rfl) λa x xs _=>⟨trivial,Qg n⟩;rw[ag1,Uq,Uq] at h;exact h
theorem mv0{l:List Int}{vs:List (Int×Bool)}:aq (aE (n+1) .eX [.ref 0,.ref 1] [aj l,.dict .int (jM vs)]) (.int (mv l (lk vs))) [aj l,.dict .int (jM vs)]:=by
 unfold mv;by_cases hl:l=[]
 ·subst hl
  exact gS rfl rfl (gZ 2)
 have hv:vi l≠[]:= λe=>hl (UI.mp e);cases c1:jV l (kc (lk vs)) with
 |true=>exact gS rfl rfl (kB 0 (kJ hv)<|kF 1 (Hj n l vs)<|kB 3 (Dn true hl rfl c1)<|gZ 1)
 |false=>
  cases c2:jV l (we (lk vs)) with
  |true=>exact gS rfl rfl (kB 0 (kJ hv)<|kF 1 (Hj n l vs)<|kB 3 (Dn false hl rfl c1)<|kB 2 (Dn true hl (DM (lk vs) l).symm c2)<|gZ 1)
  |false=>exact gS rfl rfl (kB 0 (kJ hv)<|kF 1 (Hj n l vs)<|kB 3 (Dn false hl rfl c1)<|kB 2 (Dn false hl (DM (lk vs) l).symm c2)<|gZ 1)
theorem EZ(l:List Int)(vs:List (Int×Bool))(a d:Nat)(hn:wk [a,d]=true)(M:ai)(g:b7 [(a,aj l),(d,.dict .int (jM vs))] M):aq (aE (n+1) .eX [.ref a,.ref d] M) (.int (mv l (lk vs))) M:=
 eB (mv0 n) (Em.of g hn (ec (az _ l) (ec (wU _ vs) rfl)) rfl)
end
end
section
noncomputable def dJ(v o l x:Nat)(ca:Bool):O:= .inst .dD [(.cy,.ref v),(.cI,.ref o),(.cu,.ref l),(.bE,.ref x),(.fM,.bool ca)]
noncomputable def jvm(x y:Int):Int:=if x=y then x else if x=2 then 2 else if y=2 then 2 else 1
noncomputable def jv(a b:List Int)(g:Int→Option Bool):Int:=jvm (mv a g) (mv b g)
section
variable(n:Nat){a b l x:List Int}{vs:List (Int×Bool)}{ca:Bool}
noncomputable abbrev mC(a b l x:List Int)(ca:Bool)(o:O):ai:=[dJ 1 2 3 4 ca,aj a,aj b,aj l,aj x,o]
theorem aeE:aq (aE (n+3) .fE [.ref 0,.ref 5] (mC a b l x ca (.dict .int (jM vs)))) (.int (jv a b (lk vs))) (mC a b l x ca (.dict .int (jM vs))):=by
 unfold jv jvm;by_cases c:mv a (lk vs)=mv b (lk vs)
 ·rw[aG c]
  exact gS rfl rfl (kR 3 (EZ n a vs 1 5 rfl)<|kR 0 (EZ n b vs 2 5 rfl)<|kB 0 (aT (aC c))<|kS 1 (V.int (mv a (lk vs))) (mC a b l x ca (O.dict KK.int (jM vs))) rfl<|gZ 0)
 rw[aJ c];by_cases c1:mv a (lk vs)=2
 ·rw[aG c1]
  exact gS rfl rfl (kR 3 (EZ n a vs 1 5 rfl)<|kR 0 (EZ n b vs 2 5 rfl)<|kB 0 (aT (aH c))<|kB 1 (aT (aC c1))<|kS 2 (V.int Gl.ju.val) (mC a b l x ca (O.dict KK.int (jM vs))) rfl<|gZ 0)
 rw[aJ c1];by_cases c2:mv b (lk vs)=2
 ·rw[aG c2]
  exact gS rfl rfl (kR 3 (EZ n a vs 1 5 rfl)<|kR 0 (EZ n b vs 2 5 rfl)<|kB 0 (aT (aH c))<|kB 1 (aT (aH c1))<|kB 1 (aT (aC c2))<|kS 1 (V.int Gl.ju.val) (mC a b l x ca (O.dict KK.int (jM vs))) rfl<|gZ 0)
 rw[aJ c2];exact gS rfl rfl (kR 3 (EZ n a vs 1 5 rfl)<|kR 0 (EZ n b vs 2 5 rfl)<|kB 0 (aT (aH c))<|kB 1 (aT (aH c1))<|kB 1 (aT (aH c2))<|kS 1 (V.int Gl.kP.val) (mC a b l x ca (O.dict KK.int (jM vs))) rfl<|gZ 0)
theorem wN(a b l x:List Int)(ca:Bool)(vs:List (Int×Bool))(p q r s t u:Nat)(hn:wk [p,q,r,s,t,u]=true)(M:ai)(g:b7 [(p,dJ q r s t ca),(q,aj a),(r,aj b),(s,aj l),(t,aj x),(u,.dict .int (jM vs))] M):aq (aE (n+3) .fE [.ref p,.ref u] M) (.int (jv a b (lk vs))) M:=
 eB (aeE n) (Em.of g hn (ec rfl (ec (az _ a) (ec (az _ b) (ec (az _ l) (ec (az _ x) (ec (wU _ vs) rfl)))))) rfl)
noncomputable def sQ:Int:=18446744073709551615
noncomputable def vN(l:List Int)(f:Int→Int):Int:=if l=[] then sQ else(aB (l.map f)).getD (l.length-(l.length/2+1)) 0
noncomputable def JM(a b:List Int)(f:Int→Int):Int:=if vN a f<vN b f then vN a f else vN b f
noncomputable def CU(vs:List (Int×Int))(i:Int):Int:=(lk vs i).getD 0
theorem acv(vs:List (Int×Int))(x:Int):some ((look (.int x) (oB vs)).getD (.int 0))=some (.int (CU vs x)):=by rw[yi (vs:=vs) rfl];unfold CU lk;cases UB x vs<;>rfl
theorem fd2{n:Nat}(h:0<n):((n:Int)-(Zn (n:Int) 2+1))=((n-(n/2+1):Nat):Int):=by rw[X6 _ (by decide)];exact(ap5 (ap6 h (by decide))).symm
theorem fd3{n m:Nat}(h:n<64):¬ay≤(((n-m:Nat):Int)).natAbs:=by unfold ay;exact Wg.mpr (Sz (V8 ..) (SM h (by decide)))
theorem aik{l:List Int}{f:Int→Int}(hl:l≠[])(hs:l.length<64):bA (vi (aB (l.map f))) (((vi (aB (l.map f))).length:Int)-(Zn ((vi (aB (l.map f))).length:Int) 2+1))=some (.int (vN l f)):=by
 have h0:0<l.length:=Vy.mpr hl;have hlen:(aB (l.map f)).length=l.length:=by rw[kT,Sy]
 have hm:l.length-(l.length/2+1)<(aB (l.map f)).length:=by rw[hlen];exact Wk h0 (WT _)
 have e:=fd2 h0;have h1:=fd3 (m:=l.length/2+1) hs;unfold vN;rw[aJ hl,Sy,hlen,e];unfold bA;rw[aJ h1,aG (Tw _),Ug,Tz];rw[S6 hm,U7,S6 hm];rfl
theorem akf(l:List Int)(vs:List (Int×Int))(hs:l.length<64):aq (vM n ((aY .fh 1).ex.arg 0) [.ref 0,.ref 1,.af,.af] (.ref 0) [aj l,.dict .int (oB vs)]) (.ref 2) [aj l,.dict .int (oB vs),aj (l.map (CU vs))]:=by
 have h:=pq.zp (n:=n) (t:= .aA 3) (v:= .ref 0) (cs:= .zn) (el:=((aY .fh 1).ex.arg 0).el) (env:=[.ref 0,.ref 1,.af,.af]) (m:=[aj l,.dict .int (oB vs)]) (c:=V.int) (l:=l) (g:= λx=>some (CU vs x)) rfl (SM hs (by decide)) λx _=>
  gC (kV 1 (acv vs x)<|kI 0 (some (SP V.int l))<|kE)
 rw[VP] at h;exact h
theorem mi0(hs:l.length<64){vs:List (Int×Int)}:aq (aE (n+1) .fh [.ref 0,.ref 1] [aj l,.dict .int (oB vs)]) (.int (vN l (CU vs))) [aj l,.dict .int (oB vs)]:=by
 by_cases hl:l=[]
 ·subst hl
  exact gS rfl rfl (gZ 2)
 have hv:vi l≠[]:= λe=>hl (UI.mp e);exact gS rfl rfl (kB 0 (kJ hv)<|kC 1 (akf n l vs hs)<|kO 0 ((λm a=>zf m a (l:=l.map (CU vs)) (by rw[Sy];exact hs)) ([aj l,O.dict KK.int (oB vs),aj (SP (CU vs) l)]) 2 rfl)<|kV 5 (aik (f:=CU vs) hl hs)<|gZ 0)
theorem R6(l:List Int)(vs:List (Int×Int))(hs:l.length<64)(a d:Nat)(hn:wk [a,d]=true)(M:ai)(g:b7 [(a,aj l),(d,.dict .int (oB vs))] M):aq (aE (n+1) .fh [.ref a,.ref d] M) (.int (vN l (CU vs))) M:=
 eB (mi0 n hs) (Em.of g hn (ec (az _ l) (ec (w7 _ vs) rfl)) rfl)
theorem ahv{vs:List (Int×Int)}(ha:a.length<64)(hb:b.length<64):aq (aE (n+3) .gy [.ref 0,.ref 5] (mC a b l x ca (.dict .int (oB vs)))) (.int (JM a b (CU vs))) (mC a b l x ca (.dict .int (oB vs))):=by
 unfold JM;by_cases c:vN a (CU vs)<vN b (CU vs)
 ·rw[aG c]
  exact gS rfl rfl (kR 3 (R6 n a vs ha 1 5 rfl)<|kR 0 (R6 n b vs hb 2 5 rfl)<|kB 0 (sj (aC c))<|kS 1 (V.int (vN a (CU vs))) (mC a b l x ca (O.dict KK.int (oB vs))) rfl<|gZ 0)
 ·rw[aJ c]
  exact gS rfl rfl (kR 3 (R6 n a vs ha 1 5 rfl)<|kR 0 (R6 n b vs hb 2 5 rfl)<|kB 0 (sj (aH c))<|kS 1 (V.int (vN b (CU vs))) (mC a b l x ca (O.dict KK.int (oB vs))) rfl<|gZ 0)
theorem adG(a b l x:List Int)(ca:Bool)(vs:List (Int×Int))(ha:a.length<64)(hb:b.length<64)(p q r s t u:Nat)(hn:wk [p,q,r,s,t,u]=true)(M:ai)(g:b7 [(p,dJ q r s t ca),(q,aj a),(r,aj b),(s,aj l),(t,aj x),(u,.dict .int (oB vs))] M):aq (aE (n+3) .gy [.ref p,.ref u] M) (.int (JM a b (CU vs))) M:=
 eB (ahv n ha hb) (Em.of g hn (ec rfl (ec (az _ a) (ec (az _ b) (ec (az _ l) (ec (az _ x) (ec (w7 _ vs) rfl)))))) rfl)
end
end
def Up(l:List Int):Prop:=l.Pairwise (· < ·)
theorem mQ{x y:Int}:∀{l:List Int},y∈b8 x l↔y=x∨y∈l
 |[]=>by simp[b8]
 |z::l=>by
  unfold b8
  split
  ·simp
  ·simp only[SO,mQ (l:=l)]
   constructor
   ·rintro (h|h|h)<;>simp[h]
   ·rintro (h|h|h)<;>simp[h]
theorem eN{y:Int}:∀{l:List Int},y∈aB l↔y∈l
 |[]=>Uw
 |x::l=>by show y∈b8 x (aB l)↔_;rw[mQ,eN,SO]
theorem tQ{x:Int}:∀{l:List Int},l.Pairwise (· ≤ ·)→(b8 x l).Pairwise (· ≤ ·)
 |[],_=>by simp[b8]
 |z::l,h=>by
  rw[Vk] at h;unfold b8
  split
  ·rename_i hx
   refine Vk.mpr ⟨λy hy=> ?_,Vk.mpr h⟩;rcases SO.mp hy with rfl|hy
   ·exact hx
   ·exact TX hx (h.1 y hy)
  ·rename_i hx
   refine Vk.mpr ⟨λy hy=> ?_,tQ h.2⟩;rcases mQ.mp hy with rfl|hy
   ·omega
   ·exact h.1 y hy
theorem l6:∀(l:List Int),(aB l).Pairwise (· ≤ ·)
 |[]=>WZ
 |x::l=>tQ (l6 l)
noncomputable def ded(out l:List Int):List Int:=l.foldl vQ out
theorem Mq(out:List Int)(x:Int)(l:List Int):ded out (x::l)=ded (if out.getLast?=some x then out else out++[x]) l:=rfl
theorem Cg:∀(rest out:List Int),Up out→rest.Pairwise (· ≤ ·)→(∀x∈out,∀y∈rest,x≤y)→Up (ded out rest)∧∀x,x∈ded out rest↔x∈out∨x∈rest
 |[],out,h,_,_=>⟨h,λx=>by simp[ded]⟩
 |y::rest,out,h,hr,hb=>by
  rw[Vk] at hr;rw[Mq];by_cases c:out.getLast?=some y
  ·rw[aG c]
   obtain⟨h1,h2⟩:=Cg rest out h hr.2 λx hx z hz=>hb x hx z (S0 _ hz);refine⟨h1,λx=> ?_⟩;have:y∈out:=List.mem_of_getLast? c;rw[h2,SO];constructor
   ·rintro (h|h)<;>simp[h]
   ·rintro (h|rfl|h)
    ·exact .inl h
    ·exact .inl this
    ·exact .inr h
  ·rw[aJ c]
   have k9:∀x∈out,x<y:= λx hx=>by
    have h1:=hb x hx y SI;have h2:x≠y:= λe=>by
     subst e;rcases ap4 out with rfl|⟨o',z,rfl⟩
     ·cases hx
     ·rw[Xg] at*
      rw[Zm] at c;unfold Up at h;rw[ap7] at h;rcases TQ.mp hx with hx|hx
      ·have h3:=h.2.2 x hx z (by simp)
       have h4:=hb z (by simp) x SI;omega
      ·rw[Tp] at hx;exact c (by rw[hx])
    omega
   obtain⟨h1,h2⟩:=Cg rest (out++[y]) (by
    unfold Up;rw[ap7];refine⟨h,by simp,λa ha b hb=> ?_⟩;rw[Tp] at hb;subst hb;exact k9 a ha) hr.2 λx hx z hz=>by
     rcases TQ.mp hx with hx|hx
     ·exact hb x hx z (S0 _ hz)
     ·rw[Tp] at hx;subst hx;exact hr.1 z hz
   refine⟨h1,λx=> ?_⟩;rw[h2,TQ,Tp,SO,or_assoc]
theorem Cu(l:List Int):Up (zG l):=(Cg _ _ WZ (l6 l) λ_ h=>nomatch h).1
theorem tZ{l:List Int}{x:Int}:x∈zG l↔x∈l:=by
 have:=(Cg (aB l) [] WZ (l6 l) λ_ h=>nomatch h).2 x
 show x∈ded [] (aB l)↔_;rw[this,eN];simp
theorem xX:∀{a b:List Int},Up a→Up b→(∀x,x∈a↔x∈b)→a=b
 |[],[],_,_,_=>rfl
 |[],y::b,_,_,h=>absurd ((h y).mpr SI) (by simp)
 |x::a,[],_,_,h=>absurd ((h x).mp SI) (by simp)
 |x::a,y::b,ha,hb,h=>by
  unfold Up at ha hb;rw[Vk] at ha hb;have e:x=y:=by
   have h1:=(h x).mp SI;have h2:=(h y).mpr SI;rcases SO.mp h1 with h1|h1
   ·exact h1
   ·rcases SO.mp h2 with h2|h2
    ·exact h2.symm
    ·have:=hb.1 x h1;have:=ha.1 y h2;omega
  subst e;rw[xX ha.2 hb.2 λz=> ?_];constructor
  ·intro hz
   have:=ha.1 z hz;rcases SO.mp ((h z).mp (S0 _ hz)) with q|q
   ·omega
   ·exact q
  ·intro hz
   have:=hb.1 z hz;rcases SO.mp ((h z).mpr (S0 _ hz)) with q|q
   ·omega
   ·exact q
noncomputable def U6:List Int:=[0,1,2,3,4,5]
noncomputable def ah(p:Int→Bool):List Int:=U6.filter p
theorem OA:(∀x∈U6,0≤x∧x<6)∧∀j:Nat,j<6→(j:Int)∈U6:=by unfold U6;decide
theorem mS{x:Int}:x∈U6↔0≤x∧x<6:=⟨OA.1 x,λ⟨a,b⟩=>by obtain⟨j,rfl⟩:=WH a;exact OA.2 j (TH.mp b)⟩
theorem aL{p:Int→Bool}{x:Int}:x∈ah p↔(0≤x∧x<6)∧p x=true:=by unfold ah;rw[Ux,mS]
theorem sd(p:Int→Bool):Up (ah p):=aq1 List.filter_sublist (by unfold U6;decide)
theorem cQ(p:Int→Bool):(ah p).length≤6:=WI ..
theorem Jw{l:List Int}(h:Up l):zG l=l:=xX (Cu l) h λ_=>tZ
theorem FY(p q:Int→Bool):(ah p).filter q=ah λx=>p x&&q x:=by unfold ah;rw[List.filter_filter];exact X7 λx _=>Bool.and_comm ..
theorem Au(p q:Int→Bool):zG (ah p++ah q)=ah λx=>p x||q x:=by
 refine xX (Cu _) (sd _) λx=> ?_;rw[tZ,TQ,aL,aL,aL,UA];constructor
 ·rintro (⟨a,b⟩|⟨a,b⟩)
  ·exact⟨a,.inl b⟩
  ·exact⟨a,.inr b⟩
 ·rintro ⟨a,b|b⟩
  ·exact .inl ⟨a,b⟩
  ·exact .inr ⟨a,b⟩
theorem aaD(p:Int→Bool){y:Int}(h:0≤y)(h':y<6):zG (ah p++[y])=ah λx=>p x||x==y:=by
 refine xX (Cu _) (sd _) λx=> ?_;rw[tZ,TQ,aL,aL,Tp,UA,beq_iff_eq];constructor
 ·rintro (⟨a,b⟩|rfl)
  ·exact⟨a,.inl b⟩
  ·exact⟨⟨h,h'⟩,.inr rfl⟩
 ·rintro ⟨a,b|b⟩
  ·exact .inl ⟨a,b⟩
  ·exact .inr b
section
structure Kn where
 mt:Int
 up:Int
 st:Int
 pd:Int
 ac:Bool
structure St where
 av:Int→Int
 aI:Int→Int
 gV:Bool
 kn:Int→Kn
 c9:Int
 z4:Int
 bq:Nat
 dU:List (Int×Int)
 n6:Bool
 nn:Nat
 ix:Nat→Int
 fr:Nat→Int
 dc:List (Nat×Int)
 bh:List (Int×Int)
 ak:Nat→List Int
 aS:Nat
 bP:List (Int×Bool)
 xF:Int
 bN:List (Int×Int)
noncomputable def aA(t:Int→Int)(x:Int):Bool:=decide (t x=1)
noncomputable def two(t:Int→Int)(x:Int):Bool:=decide (t x=2)
noncomputable def bu(t:Int→Int)(x:Int):Bool:=decide (t x=3)
noncomputable def ao(s:St)(j:Int):Bool:=decide (0<s.av j)||decide (s.aI j=1)
noncomputable def oZ(s:St)(r:Nat):Bool:=decide (r<s.nn)&&decide (s.aS≤r)
noncomputable abbrev tl(t:Int→Int):List Int:=U6.map t
noncomputable def mG(k:Nat):List UInt8:=[TS k,0,0,0,0,0,0,0]
noncomputable def eV(r:Nat):List UInt8:=mG (r+1)
noncomputable def aP(r:Nat):V:= .bytes (eV r)
noncomputable def ak5(r:Nat):V:= .bJ [.int 0,.int 0,.int 0,.bytes [TS r]]
noncomputable def OP(r:Nat)(fr:Int):V:= .bJ [.int 15,.int 1,.int fr,.int 0,.int 0,.int 0,.bJ [ak5 r],.int 0,.none,.bool false,.int 0,.bytes []]
noncomputable def yu(s:St)(r:Nat):V:= .bJ [.int (s.ix r),OP r (s.fr r)]
noncomputable def ahJ(c:Nat)(r:Int):List UInt8:=mG c++if 0≤r then eV r.toNat else[]
noncomputable def dN(p:Nat×Int):V:= .bJ [.int p.1,.int p.2,.bytes (ahJ p.1 p.2)]
noncomputable def aR(p:Int×Int):V:= .bJ [.int p.1,.int p.2]
noncomputable def s6(p:Int×Bool):V:= .bJ [.int p.1,.bool p.2]
noncomputable def bO(l:List (Int×Int))(r:Int):List Int:=(l.filter λp=>decide (p.1=r)).map (·.2)
noncomputable abbrev CT(l:List Int):List (Int×Bool):=l.map λi=>(i,true)
noncomputable def lv(b:Bool)(o:O):O:=match b with
 |true=>o
 |false=> .aM
noncomputable def Am(x:Nat)(l:List Nat)(i:Nat):Nat:=((x::l)[i]?).getD x
theorem qk(f:Nat→Nat)(x:Nat)(l:List Nat)(i:Nat):f (Am x l i)=Am (f x) (l.map f) i:=by unfold Am;rw[←TV,Tz];cases(x::l)[i]? <;>rfl
noncomputable def jA(p:Int→Bool)(A:Nat→Nat)(k:Nat):List (V×V):=(ah p).map λj=>(.int j,.ref (Am (A k) [A (k+4),A (k+8),A (k+12),A (k+16),A (k+20)] j.toNat))
noncomputable def bC(s:St):List Nat:=Uv s.aS (s.nn-s.aS)
section
variable(A:Nat→Nat)(s:St)
noncomputable def wO:O:= .dict .str [(.str 0,.ref (A 1)),(.str 1,.ref (A 2)),(.str 13,.bool s.gV),(.str 12,.ref (A 9)),(.str 14,.ref (A 3)),(.str 16,.int s.c9),(.str 11,.ref (A 10)),(.str 9,.int s.z4),(.str 8,.int s.bq),(.str 7,.ref (A 4)),
 (.str 10,.bool s.n6),(.str 3,.ref (A 11)),(.str 4,.ref (A 5)),(.str 6,.ref (A 6)),(.str 18,.ref (A 7)),(.str 2,.ref (A 12)),(.str 5,.int s.aS),(.str 15,.ref (A 8)),(.str 17,.int s.xF)]
noncomputable def aiu:O:= .inst .cX [(.cR,.int 2),(.bW,.int 0),(.b6,.ref (A 13)),(.bL,.ref (A 18)),(.f6,.ref (A 19))]
noncomputable def acf:O:= .inst .kr [(.mL,.int s.z4),(.gG,.int s.bq),(.gK,.ref (A 20)),(.dZ,.bool s.n6)]
noncomputable def ahu:O:= .inst .fO [(.lU,.int 1),(.iO,.int s.nn),(.eG,.ref (A 21)),(.gO,.ref (A 22))]
noncomputable def cfO:O:=dJ (A 14) (A 15) (A 16) (A 17) s.gV
noncomputable def ry(k:Kn):O:= .list [.int k.mt,.int k.up,.int k.st,.int k.pd,.bool k.ac]
noncomputable def pg(k:Kn)(lr:Bool)(a:Nat):O:= .inst .jX [(.oS,.int k.mt),(.uS,.int k.up),(.xC,.int k.st),(.d7,.int k.pd),(.dH,.bool k.ac),(.ic,.bool false),(.mj,.ref a),(.nW,.bool lr)]
noncomputable def gH(a:Nat):O:= .inst .nF [(.r5,.int 2),(.bW,.int 0),(.xx,.int 0),(.xK,.int 0),(.qg,.int 0),(.GC,.ref a)]
noncomputable def Gz(r:Nat)(m a:Nat):O:= .inst .xP [(.ir,.int (s.ix r)),(.ql,.ref m),(.yd,.ref a)]
noncomputable def se(r:Nat):O:= .dict .int (jM (CT (s.ak r)))
noncomputable def ki(r:Nat)(a:Nat):O:= .inst .oE [(.qa,.int 15),(.RC,.int 1),(.Ic,.int (s.fr r)),(.pV,.int 0),(.oi,.int 0),(.ir,.int 0),(.jD,.ref a),(.sL,.int 0),(.oJ,.none),(.sU,.bool false),(.jH,.int 0),(.jt,.bytes [])]
noncomputable def j7(r:Nat):O:= .inst .A9 [(.pV,.int 0),(.ir,.int 0),(.qa,.int 0),(.xN,.bytes [TS r])]
noncomputable def MX:O:= .list (s.dU.map aR)
noncomputable def M3:O:= .list ((Sw s.nn).map aP)
noncomputable def Ge:O:= .list ((Sw s.nn).map (yu s))
noncomputable def Pp:O:= .list (s.dc.map dN)
noncomputable def HD:O:= .list (s.bP.map s6)
noncomputable def qV:O:= .list (s.bh.map aR)
noncomputable def Iu:O:= .dict .bytes ((bC s).map λr=>(aP r,.ref (Am (A 47) [A 52,A 57,A 62,A 67,A 72,A 77,A 82,A 87,A 92,A 97,A 102,A 107] r)))
noncomputable def aaF:O:= .list ((bC s).map aP)
noncomputable def base:ai:=[wO A s,aj (tl s.av),aj (tl s.aI),.dict .int (jA (ao s) A 23),MX s,M3 s,Ge s,Pp s,HD s,aiu A,acf A s,ahu A s,qV s,cfO A s,aj (ah (aA s.av)),aj (ah (aA s.aI)),aj (ah (two s.av)),aj (ah (bu s.av)),
 .dict .int (jA (ao s) A 24),.dict .int (jM s.bP),.dict .int (oB s.bN),Iu A s,aaF s]
noncomputable def jb(k:Nat→Bool)(j:Nat):ai:=[lv (k j) (ry (s.kn j)),lv (k j) (pg (s.kn j) (two s.av j) (A (25+4*j))),lv (k j) (gH (A (26+4*j))),lv (k j) (.list [])]
noncomputable def rb(p:Nat→Bool)(r:Nat):ai:=[lv (p r) (Gz s r (A (49+5*r)) (A (48+5*r))),lv (p r) (se s r),lv (p r) (ki s r (A (50+5*r))),lv (p r) (.list [.ref (A (51+5*r))]),lv (p r) (j7 r)]
noncomputable def gY(k p:Nat→Bool):ai:=[wO A s,aj (tl s.av),aj (tl s.aI),.dict .int (jA (ao s) A 23),MX s,M3 s,Ge s,Pp s,HD s,aiu A,acf A s,ahu A s,qV s,cfO A s,aj (ah (aA s.av)),aj (ah (aA s.aI)),aj (ah (two s.av)),aj (ah (bu s.av)),
 .dict .int (jA (ao s) A 24),.dict .int (jM s.bP),.dict .int (oB s.bN),Iu A s,aaF s,
 lv (k 0) (ry (s.kn 0)),lv (k 0) (pg (s.kn 0) (two s.av 0) (A 25)),lv (k 0) (gH (A 26)),lv (k 0) (.list []),lv (k 1) (ry (s.kn 1)),lv (k 1) (pg (s.kn 1) (two s.av 1) (A 29)),lv (k 1) (gH (A 30)),lv (k 1) (.list []),lv (k 2) (ry (s.kn 2)),
 lv (k 2) (pg (s.kn 2) (two s.av 2) (A 33)),lv (k 2) (gH (A 34)),lv (k 2) (.list []),lv (k 3) (ry (s.kn 3)),lv (k 3) (pg (s.kn 3) (two s.av 3) (A 37)),lv (k 3) (gH (A 38)),lv (k 3) (.list []),lv (k 4) (ry (s.kn 4)),lv (k 4) (pg (s.kn 4) (two s.av 4) (A 41)),
 lv (k 4) (gH (A 42)),lv (k 4) (.list []),lv (k 5) (ry (s.kn 5)),lv (k 5) (pg (s.kn 5) (two s.av 5) (A 45)),lv (k 5) (gH (A 46)),lv (k 5) (.list []),lv (p 0) (Gz s 0 (A 49) (A 48)),lv (p 0) (se s 0),lv (p 0) (ki s 0 (A 50)),
 lv (p 0) (.list [.ref (A 51)]),lv (p 0) (j7 0),lv (p 1) (Gz s 1 (A 54) (A 53)),lv (p 1) (se s 1),lv (p 1) (ki s 1 (A 55)),lv (p 1) (.list [.ref (A 56)]),lv (p 1) (j7 1),lv (p 2) (Gz s 2 (A 59) (A 58)),lv (p 2) (se s 2),
 lv (p 2) (ki s 2 (A 60)),lv (p 2) (.list [.ref (A 61)]),lv (p 2) (j7 2),lv (p 3) (Gz s 3 (A 64) (A 63)),lv (p 3) (se s 3),lv (p 3) (ki s 3 (A 65)),lv (p 3) (.list [.ref (A 66)]),lv (p 3) (j7 3),lv (p 4) (Gz s 4 (A 69) (A 68)),
 lv (p 4) (se s 4),lv (p 4) (ki s 4 (A 70)),lv (p 4) (.list [.ref (A 71)]),lv (p 4) (j7 4),lv (p 5) (Gz s 5 (A 74) (A 73)),lv (p 5) (se s 5),lv (p 5) (ki s 5 (A 75)),lv (p 5) (.list [.ref (A 76)]),lv (p 5) (j7 5),
 lv (p 6) (Gz s 6 (A 79) (A 78)),lv (p 6) (se s 6),lv (p 6) (ki s 6 (A 80)),lv (p 6) (.list [.ref (A 81)]),lv (p 6) (j7 6),lv (p 7) (Gz s 7 (A 84) (A 83)),lv (p 7) (se s 7),lv (p 7) (ki s 7 (A 85)),lv (p 7) (.list [.ref (A 86)]),
 lv (p 7) (j7 7),lv (p 8) (Gz s 8 (A 89) (A 88)),lv (p 8) (se s 8),lv (p 8) (ki s 8 (A 90)),lv (p 8) (.list [.ref (A 91)]),lv (p 8) (j7 8),lv (p 9) (Gz s 9 (A 94) (A 93)),lv (p 9) (se s 9),lv (p 9) (ki s 9 (A 95)),
 lv (p 9) (.list [.ref (A 96)]),lv (p 9) (j7 9),lv (p 10) (Gz s 10 (A 99) (A 98)),lv (p 10) (se s 10),lv (p 10) (ki s 10 (A 100)),lv (p 10) (.list [.ref (A 101)]),lv (p 10) (j7 10),lv (p 11) (Gz s 11 (A 104) (A 103)),lv (p 11) (se s 11),
 lv (p 11) (ki s 11 (A 105)),lv (p 11) (.list [.ref (A 106)]),lv (p 11) (j7 11),lv (p 12) (Gz s 12 (A 109) (A 108)),lv (p 12) (se s 12),lv (p 12) (ki s 12 (A 110)),lv (p 12) (.list [.ref (A 111)]),lv (p 12) (j7 12)]
end
noncomputable def jbs(A:Nat→Nat)(s:St)(k:Nat→Bool):ai:=jb A s k 0++(jb A s k 1++(jb A s k 2++(jb A s k 3++(jb A s k 4++jb A s k 5))))
noncomputable def rbs(A:Nat→Nat)(s:St)(p:Nat→Bool):ai:=rb A s p 0++(rb A s p 1++(rb A s p 2++(rb A s p 3++(rb A s p 4++(rb A s p 5++(rb A s p 6++(rb A s p 7++(rb A s p 8++(rb A s p 9++(rb A s p 10++(rb A s p 11++(rb A s p 12))))))))))))
section
variable(A f:Nat→Nat)(s:St)(k p:Nat→Bool)
theorem Jf:gY A s k p=base A s++(jbs A s k++rbs A s p):=by kernel_rfl
theorem bl{o o':O}(b:Bool)(h:o.bM f=o'):(lv b o).bM f=lv b o':=by cases b<;>first|rfl|exact h
theorem dK{α:Type}(c:α→V)(h:∀a,(c a).bM f=c a)(l:List α):O.bM f (.list (l.map c))=.list (l.map c):=bk O.list (pL f h l)
theorem EC(q:Int→Bool)(i:Nat):O.bM f (.dict .int (jA q A i))=.dict .int (jA q (λa=>f (A a)) i):=bk (O.dict .int) ((T4 ..).trans (Tg λj _=>bk (λa=>(V.int j,V.ref a)) (qk f ..)))
theorem M1:O.bM f (Iu A s)=Iu (λa=>f (A a)) s:=bk (O.dict .bytes) ((T4 ..).trans (Tg λr _=>bk (λa=>(aP r,V.ref a)) (qk f ..)))
theorem N3:(base A s).map (O.bM f)=base (λa=>f (A a)) s:=
 ec rfl<|ec (az f _)<|ec (az f _)<|ec (EC A f _ _)<|ec (dK f aR (λ_=>rfl) _)<|ec (dK f aP (λ_=>rfl) _)<|ec (dK f (yu s) (λ_=>rfl) _)<|ec (dK f dN (λ_=>rfl) _)<|ec (dK f s6 (λ_=>rfl) _)<|
 ec rfl<|ec rfl<|ec rfl<|ec (dK f aR (λ_=>rfl) _)<|ec rfl<|ec (az f _)<|ec (az f _)<|ec (az f _)<|ec (az f _)<|ec (EC A f _ _)<|ec (wU f _)<|ec (w7 f _)<|ec (M1 A f s)<|ec (dK f aP (λ_=>rfl) _) rfl
theorem abF(j:Nat):(jb A s k j).map (O.bM f)=jb (λa=>f (A a)) s k j:=ec (bl f _ rfl)<|ec (bl f _ rfl)<|ec (bl f _ rfl)<|ec (bl f _ rfl) rfl
theorem ac6(r:Nat):(rb A s p r).map (O.bM f)=rb (λa=>f (A a)) s p r:=ec (bl f _ rfl)<|ec (bl f _ (wU f _))<|ec (bl f _ rfl)<|ec (bl f _ rfl)<|ec (bl f _ rfl) rfl
theorem nZ{a a' b b':ai}(h:a.map (O.bM f)=a')(h':b.map (O.bM f)=b'):(a++b).map (O.bM f)=a'++b':=by rw[TA,h,h']
theorem nV:(gY A s k p).map (O.bM f)=gY (λa=>f (A a)) s k p:=by rw[Jf,Jf];have j:=abF A f s k;have r:=ac6 A f s p;exact nZ f (N3 A f s) (nZ f (nZ f (j 0) (nZ f (j 1) (nZ f (j 2) (nZ f (j 3) (nZ f (j 4) (j 5)))))) (nZ f (r 0) (nZ f (r 1) (nZ f (r 2) (nZ f (r 3) (nZ f (r 4) (nZ f (r 5) (nZ f (r 6) (nZ f (r 7) (nZ f (r 8) (nZ f (r 9) (nZ f (r 10) (nZ f (r 11) (r 12))))))))))))))
end
noncomputable abbrev I(a:Nat):Nat:=a
noncomputable def mem(s:St):ai:=gY I s (λj=>ao s j) (oZ s)
end
noncomputable abbrev ndM(d9:List Nat)(al:List Bool):Bool:=wk (((d9.zip al).filter (·.2)).map (·.1))
theorem _root_.cT.Em.abt{d9:List Nat}{al:List Bool}{ms os m:ai}(h:(d9.zip al).map (λp=>cond p.2 ((m.get p.1).getD .aM) .aM)=os)(ha:al.length=d9.length)(e:ms.map (O.bM (bQ d9 m.length))=os)(pw:(d9.zip al).Pairwise λp q=>p.2=true→q.2=true→p.1≠q.1)(bd:∀a∈d9,a<m.length):Em (bQ d9 m.length) ms m:=by
 have len:d9.length=ms.length:=by
  have:=bk Vx (h.trans e.symm)
  rwa [Sy,Sy,VZ,ha,VD] at this
 have lz:(d9.zip al).length=d9.length:=by rw[VZ,ha,VD]
 have at_:∀i (hi:i<d9.length),bQ d9 m.length i=d9[i]:= λi hi=>by unfold bQ;rw[S6 hi];rfl
 have key:∀i o,ms.get i=some o→o.live=true→∃hi:i<(d9.zip al).length,(d9.zip al)[i].2=true∧m.get (d9.zip al)[i].1=some (o.bM (bQ d9 m.length))∧bQ d9 m.length i=(d9.zip al)[i].1:= λi o ho l=>by
  have hi:i<d9.length:=len▸ai.fL ho;have hz:i<(d9.zip al).length:=lz▸hi;have q:=bk (·[i]?) (h.trans e.symm);simp only[Tz] at q;rw[show ms[i]? =some o from ho,S6 hz] at q;have q:cond (d9.zip al)[i].2 ((m.get (d9.zip al)[i].1).getD .aM) .aM=o.bM (bQ d9 m.length):=SN q;have l':=(O.i0 (bQ d9 m.length) o).trans l;refine⟨hz,?_⟩;cases a:(d9.zip al)[i].2 with
  |false=>rw[a] at q;rw[←q] at l';exact gg l'
  |true=>
   rw[a] at q;cases g:m.get (d9.zip al)[i].1 with
   |none=>rw[g] at q;rw[←q] at l';exact gg l'
   |some o'=>rw[g] at q;exact⟨rfl,bk some q,by rw[at_ i hi,Xm]⟩
 refine⟨λa ha=> ?_,λa ha=> ?_,λa o ho l=> ?_,λa b ha hb q=> ?_⟩
 ·have ha:=len▸ha
  rw[at_ a ha];exact bd _ (Vf ha)
 ·rw[Cz (len▸ha),len]
 ·obtain⟨hi,_,g,e⟩:=key a o ho l
  rw[e];exact g
 ·obtain⟨o,ho,l⟩:=ai.iu ha
  obtain⟨o',Ea,l'⟩:=ai.iu hb;obtain⟨hi,t,_,e⟩:=key a o ho l;obtain⟨Rr,t',_,e'⟩:=key b o' Ea l';rw[e,e'] at q;rcases ap0 a b with c|c|c
  ·exact absurd q (VN.mp pw a b hi Rr c t t')
  ·exact c
  ·exact absurd q.symm (VN.mp pw b a Rr hi c t' t)
theorem _root_.cT.Em.mask{d9:List Nat}{al:List Bool}{ms os m:ai}(h:(d9.zip al).map (λp=>cond p.2 ((m.get p.1).getD .aM) .aM)=os)(ha:al.length=d9.length)(e:ms.map (O.bM (bQ d9 m.length))=os)(nd:ndM d9 al=true)(bd:d9.all (λa=>S8 a m.length)=true):Em (bQ d9 m.length) ms m:=by have pw:=abi nd;rw[apY,Zl,apZ] at pw;exact Em.abt h ha e pw λa ha=>TF (S9.mp bd a ha)
noncomputable def nd2:List (Nat×Nat)→Bool
 |[]=>true
 |p::l=>l.all (λq=> !(SA p.1 q.1||(SA p.1 q.2||(SA p.2 q.1||SA p.2 q.2))))&&nd2 l
noncomputable abbrev pick(q:Bool×Nat×Nat):Nat:=cond q.1 q.2.1 q.2.2
theorem aef{ps:List (Bool×Nat×Nat)}(h:nd2 (ps.map (·.2))=true):ps.Pairwise λp q=>pick p≠pick q:=by
 induction ps with
 |nil=>exact .nil
 |cons p ps ih=>
  obtain⟨h1,h2⟩:=Sn.mp h;refine .cons (λq hq e=> ?_) (ih h2);have k:=S9.mp h1 q.2 (SW.mpr ⟨q,hq,rfl⟩);rw[Wb,Wc,Wc,Wc] at k;obtain⟨k1,k2,k3,k4⟩:=k;have no:∀{a b:Nat},SA a b=false→a≠b:= λk z=>by rw[z,show SA _ _=true from Vz _] at k;exact gg k.symm
  obtain⟨b,x,y⟩:=p;obtain⟨b',x',y'⟩:=q;cases b<;>cases b'<;>first|exact no k1 e|exact no k2 e|exact no k3 e|exact no k4 e
theorem _root_.cT.Em.afC{ps:List (Bool×Nat×Nat)}{al:List Bool}{ms os m:ai}(h:(ps.zip al).map (λq=>cond q.2 ((cond q.1.1 (m.get q.1.2.1) (m.get q.1.2.2)).getD .aM) .aM)=os)(ha:al.length=ps.length)(e:ms.map (O.bM (bQ (ps.map pick) m.length))=os)(nd:nd2 (ps.map (·.2))=true)(bd:ps.all (λq=>S8 q.2.1 m.length&&S8 q.2.2 m.length)=true):Em (bQ (ps.map pick) m.length) ms m:=by
 have hz:(ps.map pick).zip al=(ps.zip al).map λq=>(pick q.1,q.2):=by rw[List.zip_map_left];rfl
 refine Em.abt (al:=al) ?_ (by rw[Sy];exact ha) e ?_ λa ha=> ?_
 ·rw[hz,T4,←h]
  refine Tg λq _=> ?_;obtain⟨⟨b,x,y⟩,c⟩:=q;cases b<;>rfl
 ·rw[hz,Zl,VN]
  intro i j hi hj c _ _;have l:(ps.zip al).length=ps.length:=by rw[VZ,ha,VD]
  rw[Xm,Xm];exact VN.mp (aef nd) i j (l▸hi) (l▸hj) c
 ·obtain⟨⟨b,x,y⟩,hq,rfl⟩:=SW.mp ha
  obtain⟨k1,k2⟩:=Sn.mp (S9.mp bd _ hq);cases b
  ·exact TF k2
  ·exact TF k1
theorem Mv.Lz{n:Nat}{d9:List Nat}{al:List Bool}{ms os m:ai}{e e':List V}(h:(d9.zip al).map (λp=>cond p.2 ((m.get p.1).getD .aM) .aM)=os)(ha:al.length=d9.length)(q:ms.map (O.bM (bQ d9 m.length))=os)(he:V.fW (bQ d9 m.length) e'=e)
  (k3:(ms.take n).map O.live=(m.take n).map O.live) (c:(ndM d9 al&&(d9.all (λa=>S8 a m.length)&&(UC n d9.length&&((Sw n).all (λi=>SA (bQ d9 0 i) i)&&(d9.drop n).all (λa=>UC n a)))))=true):Mv n (bQ d9 m.length) e m e' ms:=by
 obtain⟨c1,c⟩:=Sn.mp c;obtain⟨c2,c⟩:=Sn.mp c;obtain⟨c3,c⟩:=Sn.mp c;obtain⟨c4,c5⟩:=Sn.mp c;have hn:=TF c3;have em:=Em.mask h ha q c1 c2;have len:ms.length=d9.length:=by have:=bk Vx (h.trans q.symm);rw[Sy,Sy,VZ,ha,VD] at this;exact this.symm
 have at_:∀N i (hi:i<d9.length),bQ d9 N i=d9[i]:= λN i hi=>by unfold bQ;rw[S6 hi];rfl
 refine⟨em,λa ha=> ?_,len▸hn,λa ha hl=> ?_,λa h1 h2=> ?_,λi v h=>by have:=IQ (bQ d9 m.length) e' i v h;rwa [he] at this⟩
 ·have hi:=SX ha hn
  rw[at_ _ a hi,←at_ 0 a hi];exact T8 (S9.mp c4 a (UM.mpr ha))
 ·have q:=bk (·[a]?) k3
  have l2:a<ms.length:=len▸SX ha hn;simp only[Tz,X8 ha,S6 l2,S6 (ai.ef hl),Xf] at q;refine ai.dg (S6 l2) ((SN q).trans ?_);obtain⟨o,ho,lo⟩:=ai.iu hl
  rwa [SN ((S6 (ai.ef hl)).symm.trans ho)]
 ·have hi:=len▸h2
  rw[at_ _ a hi];refine TF (S9.mp c5 _ (X0.mpr ⟨a-n,by rw[Vu];exact apW h1 hi,?_⟩));rw[ap8]
  congr 1
  exact UJ h1
theorem bX{α:Type}{a b:α}{l l':List α}(h:a=b)(h':l=l'):a::l=b::l':=by rw[h,h']
theorem V.xG(f g:Nat→Nat):(v:V)→(v.bM g).bM f=v.bM λa=>f (g a):=by
 intro v
 induction v using V.rec (motive_2:= λl=>V.fW f (V.fW g l)=V.fW (λa=>f (g a)) l) with
 |bJ l ih=>exact bk V.bJ ih
 |nil=>rfl
 |cons v l h ih=>exact bX h ih
 |_=>rfl
mutual
theorem V.nT(f:Nat→Nat):∀v:V,v.pure=true→v.bM f=v
 |.ref _,h=>gg h
 |.bJ l,h=>bk V.bJ (V.AW f l h)
 |.af,h=>gg h
 |.none,_=>rfl
 |.bool _,_=>rfl
 |.int _,_=>rfl
 |.str _,_=>rfl
 |.bytes _,_=>rfl
 |.range _ _,_=>rfl
theorem V.AW(f:Nat→Nat):∀l:List V,V.jm l=true→V.fW f l=l
 |[],_=>rfl
 |v::l,h=>bX (V.nT f v (Sn.mp h).1) (V.AW f l (Sn.mp h).2)
end
theorem D5(f g:Nat→Nat)(l:List V):V.fW f (V.fW g l)=V.fW (λa=>f (g a)) l:=by
 induction l with
 |nil=>rfl
 |cons v l ih=>exact bX (V.xG f g v) ih
theorem O.xG(f g:Nat→Nat)(o:O):(o.bM g).bM f=o.bM λa=>f (g a):=by
 have key:∀{K:Type} (es:List (K×V)),(es.map λe=>(e.1,e.2.bM g)).map (λe=>(e.1,e.2.bM f))=es.map λe=>(e.1,e.2.bM λa=>f (g a)):= λes=>by rw[T4];exact Tg λe _=>bk (VO e.1) (V.xG f g e.2)
 cases o with
 |list l=>exact bk O.list (D5 f g l)
 |bare l=>exact bk O.bare (D5 f g l)
 |dict k es=>exact bk (O.dict k) (key es)
 |inst c fs=>exact bk (O.inst c) (key fs)
 |aM=>rfl
theorem _root_.cT.Em.trans{f g:Nat→Nat}{a b c:ai}(E:Em g a b)(F:Em f b c):Em (λi=>f (g i)) a c where
 lo i hi:=F.lo _ (E.lo i hi)
 hi i h:=by rw[E.hi i h,F.hi _ (SV _ _),VM]
 get i o ho l:=by rw[F.get _ _ (E.get i o ho l) ((O.i0 g o).trans l),O.xG]
 inj i j hi hj e:=E.inj i j hi hj (F.inj _ _ (E.live hi) (E.live hj) e)
structure q8(w:Nat)(f:Nat→Nat)(s:St)(M:ai):Prop where
 em:Em f (mem s) M
 w:f 0=w
def QZ(f:Nat→Nat)(s:St)(M:ai)(b:Nat):Prop:=b<M.length∧∀a,(mem s).live a=true→f a≠b
def Ce(n:Nat)(g:Fn)(args:List V)(s:St)(S:St→Prop):Prop:= ∀(w:Nat) f M,q8 w f s M→aE n g (.ref w::args) M (λv M'=>v=.bool true∧∃s' f',S s'∧q8 w f' s' M'∧∀b,QZ f s M b→M'.get b=M.get b∧QZ f' s' M' b) fy
abbrev dM(n:Nat)(g:Fn)(args:List V)(s:St)(S:St→Prop):Prop:=aE n g (.ref 0::args) (mem s) (λv m=>v=.bool true∧∃s' f,S s'∧q8 0 f s' m) fy
theorem Ce.fin{s:St}{S:St→Prop}{f:Nat→Nat}{w:Nat}{M M':ai}{v:V}(q:v=.bool true∧∃s' f',S s'∧q8 w f' s' M'∧∀b,QZ f s M b→M'.get b=M.get b∧QZ f' s' M' b):v=.bool true∧∃s' f',S s'∧q8 w f' s' M':=
 let⟨e,s',f',h1,h2,_⟩:=q
 ⟨e,s',f',h1,h2⟩
theorem Ce.of{n:Nat}{g:Fn}{args:List V}{s:St}{S:St→Prop}(h:dM n g args s S)(hp:∀f,V.fW f args=args):Ce n g args s S:= λw f M B=>by
 have k:=aE.frame h B.em (Q':= λv M'=>v=.bool true∧∃s' f',S s'∧q8 w f' s' M'∧∀b,QZ f s M b→M'.get b=M.get b∧QZ f' s' M' b) (X':=fy) (λv dW q lt=> ?_) λ_ z=>z.elim
 ·rw[show V.fW f (.ref 0::args)=.ref w::args from bX (bk V.ref B.w) (hp f)] at k
  exact k
 ·obtain⟨rfl,s',g',hs,B'⟩:=q
  obtain⟨M',p⟩:=xm.akh B.em lt.1 lt.2;refine⟨M',p,rfl,s',_,hs,⟨B'.em.trans p.em,(bk f B'.w).trans B.w⟩,λb o=>⟨p.keep b o.1 o.2,?_,λa ha e=> ?_⟩⟩
  ·rw[p.len];exact SX o.1 (SV _ _)
  ·have e:f (g' a)=b:=e
   have la:=B'.em.live ha;by_cases c:g' a<(mem s).length
   ·exact o.2 _ ((lt.2 _ c).symm.trans la) e
   ·rw[B.em.hi _ (SS c)] at e
    exact absurd o.1 (TL.mpr (e▸SV _ _))
theorem _root_.cT.xm.new{M dW:ai}{c:jn}(hl:1≤dW.length):xm (λi=>M.length+i) [.inst c []] (M.push (.inst c [])) dW (M++dW.map (O.bM λi=>M.length+i)):=by
 have ln:(M++dW.map (O.bM λi=>M.length+i)).length=M.length+dW.length:=by rw[S4,Sy]
 have got:∀a o,dW.get a=some o→(M++dW.map (O.bM λi=>M.length+i)).get (M.length+a)=some (o.bM λi=>M.length+i):= λa o e=>by show(M++dW.map _)[M.length+a]? =_;rw[X3 (SV _ _),VM,Tz,show dW[a]? =some o from e];rfl
 refine⟨⟨λa ha=>by rw[ln];exact XZ ha _,λa ha=>by rw[ln,UN,UJ ha],λa o e _=>got a o e,λa b _ _ e=>Zk e⟩,?_,λb hb hn=> ?_,λa ha h=> ?_⟩
 ·rw[ln,ai.length_push,UN];exact bk _ (UJ hl).symm
 ·have hb:b<M.length:=by
   rw[ai.length_push] at hb;exact Wl (VB hb) λe=>hn 0 rfl e.symm
  exact(Ve hb).trans (ai.tu hb).symm
 ·obtain⟨o,e,l⟩:=ai.iu h
  have k9:a<dW.length:=Nat.lt_of_add_lt_add_left (SX (ai.fL e) (Te ln));have q:=(got a dW[a] (S6 k9)).symm.trans e;exact ai.dg (S6 k9) (by rw[←O.i0 λi=>M.length+i,SN q];exact l)
theorem _root_.cT.Em.new{M:ai}{c:jn}:Em (λi=>M.length+i) [.inst c []] (M.push (.inst c [])) where
 lo a ha:=by rw[ai.length_push];exact XZ ha _
 hi a ha:=by rw[ai.length_push,UN];exact bk _ (UJ ha).symm
 get a o e _:=by have:=Zj.mp (ai.fL e);subst this;cases SN e;exact ai.CY
 inj a b _ _ e:=Zk e
theorem jZ{n:Nat}{g:Fn}{c:jn}{vs:List V}{o:O}{ex:ai}(h:aq (aE n g (.ref 0::vs) [.inst c []]) .none (o::ex))(hp:∀f,V.fW f vs=vs)(M:ai):aq (aE n g (.ref M.next::vs) (M.push (.inst c []))) .none (M++(o::ex).map (O.bM λi=>M.length+i)):=by
 have k:=aE.frame (Q':=kOk .none (M++(o::ex).map (O.bM λi=>M.length+i))) (X':=fy) h (Em.new (M:=M)) (λv dW q _=>⟨M++(o::ex).map (O.bM λi=>M.length+i),by rw[q.2];exact xm.new (Xa _ _),by rw[q.1];exact⟨rfl,rfl⟩⟩) λ_ z=>z.elim;rw[show V.fW (λi=>M.length+i) (.ref 0::vs)=.ref M.next::vs from bX rfl (hp _)] at k
 exact k
def Seen(s:St)(m:ai):Prop:= ∃f,q8 0 f s m
theorem dM.fin{n:Nat}{g:Fn}{args:List V}{s s':St}{S:St→Prop}{m:ai}(h:aq (aE n g (.ref 0::args) (mem s)) (.bool true) m)(hS:S s')(hB:Seen s' m):dM n g args s S:=
 let⟨f,hB⟩:=hB
 h.bg (λv m' q=>⟨q.1,s',f,hS,q.2▸hB⟩) λ_ z=>z.elim
theorem Seen.of{s:St}{m:ai}(d9:List Nat)(al:List Bool)(k p:Nat→Bool)(h:(d9.zip al).map (λp=>cond p.2 ((m.get p.1).getD .aM) .aM)=gY (bQ d9 m.length) s k p)
  (c:(SA al.length d9.length&&(ndM d9 al&&(d9.all (λa=>S8 a m.length)&&SA (bQ d9 m.length 0) 0)))=true) (hk:k= λj:Nat=>ao s j) (hp:p=oZ s):Seen s m:=by
 subst hk hp;obtain⟨c0,c⟩:=Sn.mp c;obtain⟨c1,c⟩:=Sn.mp c;obtain⟨c2,c3⟩:=Sn.mp c;exact⟨_,Em.mask h (T8 c0) (nV I _ s _ _) c1 c2,T8 c3⟩
noncomputable def Kq:List Bool:=SR 112 true
theorem Seen.CZ(s:St)(ex:ai):Seen s (mem s++ex):=
 Seen.of (m:=mem s++ex) (Sw 112) Kq (λj:Nat=>ao s j) (oZ s) (by kernel_rfl) (by kernel_rfl) (Ue _) (Ue _)
theorem Seen.rfl{s:St}{m:ai}(h:m=mem s):Seen s m:=by subst h;exact Seen.of (m:=mem s) (Sw 112) Kq (λj:Nat=>ao s j) (oZ s) (by kernel_rfl) (by kernel_rfl) (Ue _) (Ue _)
noncomputable def slots(l:List (Nat×Nat)):List Nat:=l.foldl (λm p=>m.set p.1 p.2) (Sw 112)
theorem pY{q:Nat→Bool}{j:Nat}(h:q j=true):(λi=>SA i j||q i)=q:=funext λi=>by
 cases e:SA i j with
 |false=>rfl
 |true=>rw[T8 e,h];rfl
section
theorem aQ(a b:Int)(h:0<b:=by decide):(Op.nC .qA a b).map V.int=some (.int (a%b)):=by unfold Op.nC;show Ua V.int (if b=0 then none else some (a.fmod b))=_;rw[aJ (by omega),Int.fmod_eq_emod_of_nonneg _ (by omega)];rfl
theorem bw(a b:Int)(h:0<b∧b<1073741824:=by decide):(Op.nC .fdiv a b).map V.int=some (.int (a/b)):=by have:b≠0∧b.natAbs<1073741824:=⟨by omega,by omega⟩;show Ua V.int (if b≠0∧b.natAbs<1073741824 then some (a.fdiv b) else none)=_;rw[aG this,X6 _ (by omega)];rfl
noncomputable abbrev tb(A:Nat→Nat)(k:Nat)(x:Int):Nat:=Am (A k) [A (k+4),A (k+8),A (k+12),A (k+16),A (k+20)] x.toNat
theorem w6(g:Int→V)(x:Int)(l:List Int):look (.int x) (l.map λj=>(V.int j,g j))=if x∈l then some (g x) else none:=by
 induction l with
 |nil=>rfl
 |cons y l ih=>
  rw[TV,lg,ih];by_cases h:y=x
  ·subst h;rw[aG rfl,aG SI]
  ·rw[aJ λe=>h (V.int.inj e)]
   by_cases c:x∈l
   ·rw[aG c,aG (S0 _ c)]
   ·rw[aJ c,aJ λm=>(SO.mp m).elim (λe=>h e.symm) c]
theorem Av{q:Int→Bool}{A:Nat→Nat}{k:Nat}(x:Int):look (.int x) (jA q A k)=if x∈ah q then some (.ref (tb A k x)) else none:=w6 _ x _
theorem aij{q:Int→Bool}{A:Nat→Nat}{k:Nat}{x:Int}(h:x∈ah q):look (.int x) (jA q A k)=some (.ref (tb A k x)):=(Av x).trans (aG h)
theorem afT{q:Int→Bool}{A:Nat→Nat}{k:Nat}{x:Int}(h:x∉ah q):look (.int x) (jA q A k)=none:=(Av x).trans (aJ h)
noncomputable abbrev eY{q:Int→Bool}{x:Int}(h:x∈ah q):=aij (A:=I) (k:=23) h
noncomputable abbrev ny{q:Int→Bool}{x:Int}(h:x∈ah q):=aij (A:=I) (k:=24) h
noncomputable abbrev yQ{q:Int→Bool}{x:Int}(h:x∉ah q):=afT (A:=I) (k:=23) h
theorem eZ{i j:Int}{b:Bool}(h:decide (i<j)=b):some (decide (i<j))=some b:=bk some h
theorem Dl{i j:Int}{b:Bool}(h:decide (i≤j)=b):some (decide (i≤j))=some b:=bk some h
noncomputable def oH(s:St)(j:Int)(k:Kn):St:={s with kn:= λi=>if i=j then k else s.kn i}
section
variable(n:Nat)(s:St)
noncomputable def tT(y:Int):St:={s with c9:=s.c9+y/40%3}
noncomputable def t9(y:Int):Int:=s.c9+y/40%3-y/5%8
theorem Pg(y:Int)(h:(1+y%5)∉ah (ao s)):aq (aE (n+2) .jU [.ref 0,.int y] (mem s)) (.bool true) (mem (tT s y)):=
 gF rfl (kV 1 (bw y 40)<|kV 0 (aQ (y/40) 3)<|kV 2 (aQ y 5)<|kB 2 (iB (yQ h))<|kE)
theorem rj{i j k:Int}(h:i+j=k):(Op.nC .add i j).map V.int=some (.int k):=bk (λx=>some (V.int x)) h
noncomputable def aaW(k:Kn)(x:Int):Kn:={k with mt:=x,up:=if k.up<x+1 then x+1 else k.up}
noncomputable abbrev iY(j:Nat)(s:St):ai:=gY I s (λi=>SA i j||ao s i) (oZ s)
theorem eU{s:St}{j:Int}(h:j∈ah (ao s)):iY j.toNat s=mem s:=bk (gY I s · (oZ s)) (pY (q:= λi:Nat=>ao s i) (by obtain⟨⟨h0,_⟩,h⟩:=aL.mp h;show ao s (j.toNat:Int)=true;rw[Wm h0];exact h))
theorem KZ{P:Int→Prop}(h0:P 0)(h1:P 1)(h2:P 2)(h3:P 3)(h4:P 4)(h5:P 5):∀x:Int,x∈U6→P x:= λx h=>by
 rcases SO.mp h with rfl|h
 ·exact h0
 rcases SO.mp h with rfl|h
 ·exact h1
 rcases SO.mp h with rfl|h
 ·exact h2
 rcases SO.mp h with rfl|h
 ·exact h3
 rcases SO.mp h with rfl|h
 ·exact h4
 rcases SO.mp h with rfl|h
 ·exact h5
 exact nomatch h
theorem C6{β:Type}{L R:Int→β}(h:U6.map L=U6.foldr (λa t=>R a::t) [])(x:Int)(hx:x∈U6):L x=R x:=O8 h x hx
theorem o7{A B:Type}{L R:Int→A→B→Prop}(h:U6.map L=U6.foldr (λa t=>R a::t) [])(x:Int)(hx:x∈U6)(a:A)(b:B):L x a b=R x a b:=congrFun (congrFun (O8 h x hx) a) b
theorem dw{p:Int→Bool}{x:Int}(h:x∈ah p):x∈U6:=(Ux.mp h).1
theorem aad(y:Int):∀j:Int,j∈U6→1+y%5=j→j∈ah (ao s)→decide ((s.kn j).mt<t9 s y)=false→decide (t9 s y≤(s.kn j).mt)=true→aq (aE (n+2) .jU [.ref 0,.int y] (iY j.toNat s)) (.bool true) (iY j.toNat (tT s y)):=by refine KZ ?_ ?_ ?_ ?_ ?_ ?_<;>intro h hm c c'<;>exact gF rfl (kV 1 (bw y 40)<|kV 0 (aQ (y/40) 3)<|kV 2 (aQ y 5)<|kV 0 (rj h)<|kB 1 (iB (eY hm))<|kV 2 (eY hm)<|kV 1 (bw y 5)<|kV 0 (aQ (y/5) 8)<|kB 2 (eZ c)<|kV 3 (ny hm)<|kB 3 (Dl c')<|kE)
theorem Mp(y:Int):∀j:Int,j∈U6→1+y%5=j→j∈ah (ao s)→decide ((s.kn j).mt<t9 s y)=true→decide (t9 s y≤(s.kn j).mt)=false→aq (aE (n+2) .jU [.ref 0,.int y] (iY j.toNat s)) (.bool true) (iY j.toNat (oH (tT s y) j (aaW (s.kn j) (t9 s y)))):=by refine KZ ?_ ?_ ?_ ?_ ?_ ?_<;>intro h hm c c'<;>exact gF rfl (kV 1 (bw y 40)<|kV 0 (aQ (y/40) 3)<|kV 2 (aQ y 5)<|kV 0 (rj h)<|kB 1 (iB (eY hm))<|kV 2 (eY hm)<|kV 1 (bw y 5)<|kV 0 (aQ (y/5) 8)<|kB 2 (eZ c)<|kV 8 (ny hm)<|kB 3 (Dl c')<|kE)
noncomputable def H7(y:Int):St:=if 1+y%5∈ah (ao s) then(if(s.kn (1+y%5)).mt<t9 s y then oH (tT s y) (1+y%5) (aaW (s.kn (1+y%5)) (t9 s y)) else tT s y) else tT s y
theorem RY(y:Int):dM (n+2) .jU [.int y] s λs'=>s'=H7 s y:=by
 unfold H7;by_cases hm:1+y%5∈ah (ao s)
 ·rw[aG hm]
  generalize e:1+y%5=j at hm⊢;by_cases c:(s.kn j).mt<t9 s y
  ·rw[aG c]
   have q:=Mp n s y j (dw hm) e hm (aC c) (aH (Xy.mpr c));rw[eU hm] at q;exact .fin q rfl (.rfl (eU (s:=oH (tT s y) j _) hm))
  ·rw[aJ c]
   have q:=aad n s y j (dw hm) e hm (aH c) (aC (U3.mp c));rw[eU hm] at q;exact .fin q rfl (.rfl (eU (s:=tT s y) hm))
 ·rw[aJ hm]
  exact .fin (Pg n s y hm) rfl (.rfl rfl)
end
end
section
theorem yh{j:Int}{b r:Bool}{l:List (Int×Bool)}(h:decide ((j,b)∈l)=r):As (.bJ [.int j,.bool b]) (.ref 0) [.list (l.map s6)]=some r:=by
 have c:((l.map s6).all λy=>V.bT 8 y (.bJ [.int j,.bool b]))=true:=by rw[Zo];exact S9.mpr λ_ _=>rfl
 show aZ ((l.map s6).all (λy=>V.bT 8 y (.bJ [.int j,.bool b]))=true) (decide (V.bJ [.int j,.bool b]∈l.map s6))=_;rw[aZ,aG c,←h];refine bk some (decide_eq_decide.mpr ⟨λh=> ?_,λh=>SW.mpr ⟨_,h,rfl⟩⟩);obtain⟨⟨i,d⟩,h1,h2⟩:=SW.mp h;cases h2;exact h1
theorem tG{j:Int}{b r:Bool}{l:List (Int×Bool)}(h:decide ((j,b)∈l)=r):(As (.bJ [.int j,.bool b]) (.ref 0) [.list (l.map s6)]).map (! ·)=some (!r):=bk (Ua (! ·)) (yh h)
theorem MP{p:Prop}(x:Int)(h:p):kindOf (.int x)=some .int∧p:=⟨rfl,h⟩
theorem jP{α β:Type}{f:α→β}{l:List α}(h:l.length<1048576):(l.map f).length<ay:=by rw[Sy];exact h
theorem nI{α:Type}(f:α→V)(l:List α)(a:α):l.map f++[f a]=(l++[a]).map f:=(TA (l₂:=[a])).symm
theorem nH{k v:V}{es:List (V×V)}(h:look k es=none):bR k v es=es++[(k,v)]:=by
 induction es with
 |nil=>rfl
 |cons p es ih=>
  rw[lg] at h;unfold bR;by_cases c:p.1=k
  ·rw[aG c] at h;exact nomatch h
  ·rw[aJ c] at h;rw[aJ c,ih h];rfl
theorem AA(b:Bool){j:Int}{l:List (Int×Bool)}(h:lk l j=none):bR (.int j) (.bool b) (jM l)=jM (l++[(j,b)]):=(nH ((lQ h).trans rfl)).trans (TA (l₂:=[(j,b)])).symm
section
variable(n:Nat)(s:St)
noncomputable def abc(y:Int):St:={s with bP:=s.bP++[(1+y%6,decide (0<y/6%3))]}
theorem FI(y:Int)(h:y%11=10):aq (aE (n+2) .lu [.ref 0,.int y] (mem s)) (.bool true)
  (((gY (bQ (slots [(8,113),(19,112)]) 114) {s with bP:=[]} (λj:Nat=>ao s j) (oZ s)).set 8 (HD s)).set 19 (.dict .int (jM s.bP))++[.dict .int [],.list []]):=
 gF rfl (kV 0 (aQ y 11)<|kB 0 (aT (aC h))<|kE)
theorem OZ(y:Int)(h:y%11≠10)(hl:s.bP.length<100)(h0:lk s.bP (1+y%6)=none)(h1:decide ((1+y%6,true)∈s.bP)=false)(h2:decide ((1+y%6,false)∈s.bP)=false):aq (aE (n+2) .lu [.ref 0,.int y] (mem s)) (.bool true) (mem (abc s y)):=
 gF rfl (kV 0 (aQ y 11)<|kB 0 (aT (aH h))<|kV 1 (aQ y 6)<|kV 1 (bw y 6)<|kV 0 (aQ (y/6) 3)<|kB 5 (iB (lQ h0))<|QI 2 (MP (1+y%6) (jP (f:= λp:Int×Bool=>(V.int p.1,V.bool p.2)) (SM hl (by decide:100<1048576)))) (AA (decide (0<y/6%3)) h0)<|kB 1 (tG h1)<|kB 2 (tG h2)<|Hi 3 (jP (f:=s6) (SM hl (by decide:100<1048576))) (nI s6 s.bP (1+y%6,decide (0<y/6%3)))<|kE)
theorem JF(y:Int)(h:y%11≠10){b:Bool}(h0:lk s.bP (1+y%6)=some b)(h1:decide ((1+y%6,true)∈s.bP)=true):aq (aE (n+2) .lu [.ref 0,.int y] (mem s)) (.bool true) (mem s):=
 gF rfl (kV 0 (aQ y 11)<|kB 0 (aT (aH h))<|kV 1 (aQ y 6)<|kV 1 (bw y 6)<|kV 0 (aQ (y/6) 3)<|kB 5 (iB (lQ h0))<|kB 2 (tG h1)<|kE)
theorem Ks(y:Int)(h:y%11≠10){b:Bool}(h0:lk s.bP (1+y%6)=some b)(h1:decide ((1+y%6,true)∈s.bP)=false)(h2:decide ((1+y%6,false)∈s.bP)=true):aq (aE (n+2) .lu [.ref 0,.int y] (mem s)) (.bool true) (mem s):=
 gF rfl (kV 0 (aQ y 11)<|kB 0 (aT (aH h))<|kV 1 (aQ y 6)<|kV 1 (bw y 6)<|kV 0 (aQ (y/6) 3)<|kB 5 (iB (lQ h0))<|kB 2 (tG h1)<|kB 2 (tG h2)<|kE)
theorem Fv{β:Type}{j:Int}{b:β}{l:List (Int×β)}(h:lk l j=some b):(j,b)∈l:=by
 induction l with
 |nil=>exact nomatch h
 |cons p l ih=>
  unfold lk at h ih;rw[Tj] at h;by_cases c:j=p.1
  ·rw[beq_iff_eq.mpr c] at h
   have h:p.2=b:=SN h;rw[c,←h];exact SI
  ·rw[beq_eq_false_iff_ne.mpr c] at h;exact S0 _ (ih h)
theorem vS{β:Type}{j:Int}{l:List (Int×β)}(h:lk l j=none)(b:β):(j,b)∉l:=by
 induction l with
 |nil=>exact List.not_mem_nil
 |cons p l ih=>
  unfold lk at h ih;rw[Tj] at h;by_cases c:j=p.1
  ·rw[beq_iff_eq.mpr c] at h;exact nomatch h
  ·rw[beq_eq_false_iff_ne.mpr c] at h
   exactλm=>(SO.mp m).elim (λe=>c (bk VX e)) (ih h)
noncomputable def HM(y:Int):St:=if y%11=10 then{s with bP:=[]} else match lk s.bP (1+y%6) with
 |none=>abc s y
 |some _=>s
theorem RX(y:Int)(hl:s.bP.length<100):dM (n+2) .lu [.int y] s λs'=>s'=HM s y:=by
 unfold HM;by_cases h:y%11=10
 ·rw[aG h]
  exact .fin (FI n s y h) rfl (.of (slots [(8,113),(19,112)]) Kq (λj:Nat=>ao s j) (oZ s) (by kernel_rfl) (by kernel_rfl) (Ue _) (Ue _))
 rw[aJ h];cases h0:lk s.bP (1+y%6) with
 |none=>exact .fin (OZ n s y h hl h0 (aH (vS h0 _)) (aH (vS h0 _))) rfl (.rfl rfl)
 |some b=>
  by_cases h1:(1+y%6,true)∈s.bP
  ·exact .fin (JF n s y h h0 (aC h1)) rfl (.rfl rfl)
  ·have:(1+y%6,false)∈s.bP:=by
    have:=Fv h0;cases b with
    |true=>exact absurd this h1
    |false=>exact this
   exact .fin (Ks n s y h h0 (aH h1) (aC this)) rfl (.rfl rfl)
end
end
section
theorem J5{x:Int}{v:V}{f:Int→V}{l:List Int}(nd:l.Nodup)(h:x∈l):bR (.int x) v (l.map λj=>(V.int j,f j))=l.map λj=>(V.int j,if j=x then v else f j):=by
 induction l with
 |nil=>exact nomatch h
 |cons y l ih=>
  obtain⟨n1,n2⟩:=Ui.mp nd;show(if V.int y=.int x then(V.int y,v)::l.map _ else(V.int y,f y)::bR _ _ _)=_;rw[TV];by_cases c:y=x
  ·subst c
   rw[aG rfl,aG rfl];exact bk _ (Tg λj hj=>by rw[aJ λ(e:j=y)=>n1 (e▸hj)])
  ·rw[aJ λe=>c (V.int.inj e),aJ c,ih n2 ((SO.mp h).resolve_left (Tf c))]
theorem FU(p:Int→Bool):(ah p).Nodup:=aq2 (λh=>Int.ne_of_lt h) (sd p)
theorem aap:∀x∈U6,∀j∈U6,(if j=x then 112 else tb I 23 j)=tb (bQ (slots [(23+4*x.toNat,112)]) 113) 23 j:=by decide+kernel
theorem sH{q:Int→Bool}{x:Int}(h:x∈ah q):bR (.int x) (.ref 112) (jA q I 23)=jA q (bQ (slots [(23+4*x.toNat,112)]) 113) 23:=by
 refine(J5 (FU q) h).trans (Tg λj hj=>bk (VO _) ?_);refine .trans ?_ (bk V.ref (aap x (dw h) j (dw hj)));by_cases c:j=x
 ·rw[aG c,aG c]
 ·rw[aJ c,aJ c]
theorem tD{q:Int→Bool}{A:Nat→Nat}{k:Nat}:(jA q A k).length<ay:=by unfold jA;rw[Sy];exact Sz (cQ q) (by decide)
section
variable(n:Nat)(s:St)
noncomputable def yU(y:Int):St:=if y%9=8 then{s with n6:=true} else s
noncomputable def ME(k:Kn):Kn:={k with up:=k.mt+1,st:=1,pd:=0}
noncomputable def Nd(k:Kn)(l:Int):Kn:={k with st:=2,pd:=l}
noncomputable abbrev Ll(x:Int)(s:St)(k:Kn):ai:=((gY (bQ (slots [(23+4*x.toNat,112)]) 113) (oH s x k) (λi=>SA i x.toNat||ao s i) (oZ s)).set (23+4*x.toNat) (ry (s.kn x)))++[ry k]
theorem Rg(y:Int)(h:y%9≠8)(d:y/5%2=0):∀j:Int,j∈U6→1+y%5=j→j∈ah (ao s)→aq (aE (n+4) .gr [.ref 0,.int y] (iY j.toNat s)) (.bool true) (Ll j s (ME (s.kn j))):=by refine KZ ?_ ?_ ?_ ?_ ?_ ?_<;>intro e hm<;>exact gF rfl (kV 0 (aQ y 9)<|kB 0 (aT (aH h))<|kV 1 (aQ y 5)<|kV 0 (rj e)<|kB 1 (j3 (eY hm))<|kV 2 (eY hm)<|kV 0 (bw y 5)<|kV 0 (aQ (y/5) 2)<|kB 0 (aT (aC d))<|kV 3 (ny hm)<|QI 15 (MP (1+y%5) (tD (q:=ao s) (A:=I) (k:=23))) (sH hm)<|kE)
theorem Sg(y:Int)(h:y%9≠8)(d:y/5%2≠0):∀j:Int,j∈U6→1+y%5=j→j∈ah (ao s)→aq (aE (n+4) .gr [.ref 0,.int y] (iY j.toNat s)) (.bool true) (Ll j s (Nd (s.kn j) s.c9)):=by refine KZ ?_ ?_ ?_ ?_ ?_ ?_<;>intro e hm<;>exact gF rfl (kV 0 (aQ y 9)<|kB 0 (aT (aH h))<|kV 1 (aQ y 5)<|kV 0 (rj e)<|kB 1 (j3 (eY hm))<|kV 2 (eY hm)<|kV 0 (bw y 5)<|kV 0 (aQ (y/5) 2)<|kB 0 (aT (aH d))<|kV 3 (ny hm)<|QI 14 (MP (1+y%5) (tD (q:=ao s) (A:=I) (k:=23))) (sH hm)<|kE)
theorem QG(y:Int)(h:y%9=8)(d:y/5%2=0):∀j:Int,j∈U6→1+y%5=j→j∈ah (ao s)→aq (aE (n+4) .gr [.ref 0,.int y] (iY j.toNat s)) (.bool true) (Ll j {s with n6:=true} (ME (s.kn j))):=by refine KZ ?_ ?_ ?_ ?_ ?_ ?_<;>intro e hm<;>exact gF rfl (kV 0 (aQ y 9)<|kB 0 (aT (aC h))<|kV 5 (aQ y 5)<|kV 0 (rj e)<|kB 1 (j3 (eY hm))<|kV 2 (eY hm)<|kV 0 (bw y 5)<|kV 0 (aQ (y/5) 2)<|kB 0 (aT (aC d))<|kV 3 (ny hm)<|QI 15 (MP (1+y%5) (tD (q:=ao s) (A:=I) (k:=23))) (sH hm)<|kE)
theorem RK(y:Int)(h:y%9=8)(d:y/5%2≠0):∀j:Int,j∈U6→1+y%5=j→j∈ah (ao s)→aq (aE (n+4) .gr [.ref 0,.int y] (iY j.toNat s)) (.bool true) (Ll j {s with n6:=true} (Nd (s.kn j) s.c9)):=by refine KZ ?_ ?_ ?_ ?_ ?_ ?_<;>intro e hm<;>exact gF rfl (kV 0 (aQ y 9)<|kB 0 (aT (aC h))<|kV 5 (aQ y 5)<|kV 0 (rj e)<|kB 1 (j3 (eY hm))<|kV 2 (eY hm)<|kV 0 (bw y 5)<|kV 0 (aQ (y/5) 2)<|kB 0 (aT (aH d))<|kV 3 (ny hm)<|QI 14 (MP (1+y%5) (tD (q:=ao s) (A:=I) (k:=23))) (sH hm)<|kE)
theorem aaP(y:Int)(h:y%9≠8)(hm:1+y%5∉ah (ao s)):aq (aE (n+4) .gr [.ref 0,.int y] (mem s)) (.bool true) (mem s):=
 gF rfl (kV 0 (aQ y 9)<|kB 0 (aT (aH h))<|kV 1 (aQ y 5)<|kB 2 (j3 (yQ hm))<|kE)
theorem R1(y:Int)(h:y%9=8)(hm:1+y%5∉ah (ao s)):aq (aE (n+4) .gr [.ref 0,.int y] (mem s)) (.bool true) (mem {s with n6:=true}):=
 gF rfl (kV 0 (aQ y 9)<|kB 0 (aT (aC h))<|kV 5 (aQ y 5)<|kB 2 (j3 (yQ hm))<|kE)
theorem Lb(k:Kn):∀x:Int,x∈U6→x∈ah (ao s)→Seen (oH s x k) (Ll x s k):=by
 refine KZ ?_ ?_ ?_ ?_ ?_ ?_<;>intro hm
 ·exact .of (slots [(23,112)]) Kq (λi=>SA i 0||ao s i) (oZ s) (by kernel_rfl) (by kernel_rfl) (pY (q:= λi:Nat=>ao s i) (aL.mp hm).2) (Ue _)
 ·exact .of (slots [(27,112)]) Kq (λi=>SA i 1||ao s i) (oZ s) (by kernel_rfl) (by kernel_rfl) (pY (q:= λi:Nat=>ao s i) (aL.mp hm).2) (Ue _)
 ·exact .of (slots [(31,112)]) Kq (λi=>SA i 2||ao s i) (oZ s) (by kernel_rfl) (by kernel_rfl) (pY (q:= λi:Nat=>ao s i) (aL.mp hm).2) (Ue _)
 ·exact .of (slots [(35,112)]) Kq (λi=>SA i 3||ao s i) (oZ s) (by kernel_rfl) (by kernel_rfl) (pY (q:= λi:Nat=>ao s i) (aL.mp hm).2) (Ue _)
 ·exact .of (slots [(39,112)]) Kq (λi=>SA i 4||ao s i) (oZ s) (by kernel_rfl) (by kernel_rfl) (pY (q:= λi:Nat=>ao s i) (aL.mp hm).2) (Ue _)
 ·exact .of (slots [(43,112)]) Kq (λi=>SA i 5||ao s i) (oZ s) (by kernel_rfl) (by kernel_rfl) (pY (q:= λi:Nat=>ao s i) (aL.mp hm).2) (Ue _)
noncomputable def IZ(y:Int):St:=if 1+y%5∈ah (ao s) then oH (yU s y) (1+y%5) (if y/5%2=0 then ME (s.kn (1+y%5)) else Nd (s.kn (1+y%5)) s.c9) else yU s y
theorem Rq(y:Int):dM (n+4) .gr [.int y] s λs'=>s'=IZ s y:=by
 unfold IZ yU;generalize e:1+y%5=j;by_cases hm:j∈ah (ao s)
 ·rw[aG hm]
  have go:∀{s':St} {k:Kn} (e:ao s'=ao s),aq (aE (n+4) .gr [.ref 0,.int y] (iY j.toNat s)) (.bool true) (Ll j s' k)→dM (n+4) .gr [.int y] s λs₁=>s₁=oH s' j k:= λ{s' k} e q=>by rw[eU hm] at q;exact .fin q rfl (Lb s' k j (dw hm) (by rw[e];exact hm))
  by_cases h:y%9=8<;>by_cases d:y/5%2=0
  ·rw[aG h,aG d];exact go (s':={s with n6:=true}) rfl (QG n s y h d j (dw hm) e hm)
  ·rw[aG h,aJ d];exact go (s':={s with n6:=true}) rfl (RK n s y h d j (dw hm) e hm)
  ·rw[aJ h,aG d];exact go rfl (Rg n s y h d j (dw hm) e hm)
  ·rw[aJ h,aJ d];exact go rfl (Sg n s y h d j (dw hm) e hm)
 ·rw[aJ hm]
  rw[←e] at hm;by_cases h:y%9=8
  ·rw[aG h];exact .fin (R1 n s y h hm) rfl (.rfl rfl)
  ·rw[aJ h];exact .fin (aaP n s y h hm) rfl (.rfl rfl)
end
end
section
theorem EN{l:List Int}(h:Up l):aB l=l:=by
 induction l with
 |nil=>rfl
 |cons x l ih=>
  obtain⟨h1,h2⟩:=Vk.mp h;show b8 x (aB l)=_;rw[ih h2];cases l with
  |nil=>rfl
  |cons y l=>exact aG (UQ (h1 y SI))
theorem JT(m:ai)(a:Nat){q:Int→Bool}{A:Nat→Nat}{k:Nat}(h:m.get a=some (.dict .int (jA q A k))):eT (.ref a) m=.ok (.ref m.next) (m.push (aj (ah q))):=by
 unfold eT;show(m.get a).bind _=_;rw[h];show(jx ((jA q A k).map (·.1))).bind _=_;rw[show(jA q A k).map (·.1)=vi (ah q) from T4 ..,m9];show(aZ ((ah q).length<64) (V.ref m.next,m.push (aj (aB (ah q)))))=_
 rw[aZ,aG (Sz (cQ q) (by decide)),EN (sd q)];rfl
section
variable(n:Nat)(s:St)
theorem O3:aq (aE (n+1) .fD [.ref 9] (mem s)) (.ref 112) (mem s++[aj (ah (ao s))]):=
 gN 112 rfl (eO (ah (ao s))) rfl (kO 1 ((λm=>JT m 18 (q:=ao s) (A:=I) (k:=24)) (mem s) rfl)<|gZ 0)
noncomputable def pH(b:Bool)(s:St)(x:Int):St:=if b=true∧x≠1 then oH s x {s.kn x with ac:=false} else s
noncomputable abbrev CH(y:Int):List V:=[.ref 0,.int y,.af,.af]
noncomputable abbrev yc(q:Int→Bool)(s:St):ai:=mem s++[aj (ah q)]
theorem aai(q:Int→Bool)(y x:Int)(h:y/3%3≠0):i9 n (.aA 3) (aY .fP 1).body [3] (.ref 112) (vi (ah q)) (.int x) (CH y) (yc q s) (CH y) (yc q s):=
 gL (kV 0 (bw y 3)<|kV 0 (aQ (y/3) 3)<|kB 0 (aT (aH h))<|kI 2 (some (vi (ah q)))<|kE)
theorem RW(q:Int→Bool)(y x:Int)(h:y/3%3=0)(h1:x=1):i9 n (.aA 3) (aY .fP 1).body [3] (.ref 112) (vi (ah q)) (.int x) (CH y) (yc q s) (CH y) (yc q s):=
 gL (kV 0 (bw y 3)<|kV 0 (aQ (y/3) 3)<|kB 0 (aT (aC h))<|kB 1 (qL (aC h1))<|kI 1 (some (vi (ah q)))<|kE)
theorem aaK(q:Int→Bool)(y:Int)(h:y/3%3=0):∀x:Int,x∈U6→x≠1→x∈ah (ao s)→i9 n (.aA 3) (aY .fP 1).body [3] (.ref 112) (vi (ah q)) (.int x) (CH y) (iY x.toNat s++[aj (ah q)]) (CH y) (iY x.toNat (oH s x {s.kn x with ac:=false})++[aj (ah q)]):=by refine KZ ?_ ?_ ?_ ?_ ?_ ?_<;>intro h1 hm<;>first|exact absurd rfl h1|exact gL (kV 0 (bw y 3)<|kV 0 (aQ (y/3) 3)<|kB 0 (aT (aC h))<|kV 5 (ny hm)<|kV 1 (eY hm)<|kI 1 (some (vi (ah q)))<|kE)
theorem Oh(b:Bool)(x:Int):ao (pH b s x)=ao s:=by unfold pH;split<;>rfl
theorem yt(y:Int):aq (zC n (aY .fP 1) (CH y) (.ref 112) (yc (ao s) s)) (.next (CH y)) (yc (ao s) ((ah (ao s)).foldl (pH (decide (y/3%3=0))) s)):=
 rO.nj (c:=V.int) (l:=ah (ao s)) (a:=s) (E:= λ_=>CH y) (M:=yc (ao s)) (step:=pH (decide (y/3%3=0))) (I:= λa xs=>ao a=ao s∧∀x∈xs,x∈ah (ao s)) rfl ⟨rfl,λ_ h=>h⟩ (λ_=>rfl) λa x xs ⟨hq,hx⟩=>
  have hm:x∈ah (ao a):=by rw[hq];exact hx x SI
  ⟨⟨(Oh a _ x).trans hq,λz hz=>hx z (S0 _ hz)⟩,by
   by_cases h:y/3%3=0
   ·by_cases h1:x=1
    ·rw[show pH _ a x=a from aJ λc=>c.2 h1];exact RW n a _ y x h h1
    ·have q:=aaK n a (ao s) y h x (dw hm) h1 hm
     rw[eU hm,eU (s:=oH a x _) hm] at q;rw[show pH _ a x=oH a x {a.kn x with ac:=false} from aG ⟨aC h,h1⟩];exact q
   ·rw[show pH _ a x=a from aJ λc=>h (of_decide_eq_true c.1)];exact aai n a _ y x h⟩
noncomputable def o9(s:St)(k:Nat):St:={s with bq:=s.bq+k}
noncomputable def IT(y:Int):St:=(ah (ao s)).foldl (pH (decide (y/3%3=0))) (o9 s (1+y%3).toNat)
theorem aeV(y:Int)(h:1+y%3=1):aq (aE (n+3) .fP [.ref 0,.int y] (mem s)) (.bool true) (yc (ao s) ((ah (ao s)).foldl (pH (decide (y/3%3=0))) (o9 s 1))):=
 gF rfl (kV 0 (aQ y 3)<|kV 0 (rj h)<|kC 14 (O3 (n+1) (o9 s 1))<|kF 0 (yt (n+2) (o9 s 1) y)<|kE)
theorem adn(y:Int)(h:1+y%3=2):aq (aE (n+3) .fP [.ref 0,.int y] (mem s)) (.bool true) (yc (ao s) ((ah (ao s)).foldl (pH (decide (y/3%3=0))) (o9 s 2))):=
 gF rfl (kV 0 (aQ y 3)<|kV 0 (rj h)<|kC 23 (O3 (n+1) (o9 s 2))<|kF 0 (yt (n+2) (o9 s 2) y)<|kE)
theorem acQ(y:Int)(h:1+y%3=3):aq (aE (n+3) .fP [.ref 0,.int y] (mem s)) (.bool true) (yc (ao s) ((ah (ao s)).foldl (pH (decide (y/3%3=0))) (o9 s 3))):=
 gF rfl (kV 0 (aQ y 3)<|kV 0 (rj h)<|kC 32 (O3 (n+1) (o9 s 3))<|kF 0 (yt (n+2) (o9 s 3) y)<|kE)
theorem R5(y:Int):dM (n+3) .fP [.int y] s λs'=>s'=IT s y:=by
 have go:∀k,(1+y%3).toNat=k→aq (aE (n+3) .fP [.ref 0,.int y] (mem s)) (.bool true) (yc (ao s) ((ah (ao s)).foldl (pH (decide (y/3%3=0))) (o9 s k)))→dM (n+3) .fP [.int y] s λs'=>s'=IT s y:= λk e q=>by unfold IT;rw[e];exact .fin q rfl (.CZ _ _)
 have h:1+y%3=1∨1+y%3=2∨1+y%3=3:=by omega
 rcases h with h|h|h
 ·exact go 1 (bk Zp h) (aeV n s y h)
 ·exact go 2 (bk Zp h) (adn n s y h)
 ·exact go 3 (bk Zp h) (acQ n s y h)
end
end
section
theorem aaO(l:List (Int×Int))(r:Int):l.filterMap (λp=>if p.1=r then some p.2 else none)=bO l r:=by
 unfold bO
 induction l with
 |nil=>rfl
 |cons p l ih=>
  rw[X5,T6];by_cases h:p.1=r
  ·rw[aG h,aG (aC h)];exact bk _ ih
  ·rw[aJ h,aJ (by rw[aH h];exact Tc)];exact ih
theorem ku(l:List Int)(p:Int→Bool):l.filterMap (λx=>if p x=true then some x else none)=l.filter p:=by
 induction l with
 |nil=>rfl
 |cons x l ih=>
  rw[X5,T6];by_cases h:p x=true
  ·rw[aG h,aG h];exact bk _ ih
  ·rw[aJ h,aJ h];exact ih
theorem kg(t:Int→Int):∀x:Int,x∈U6→bA (vi (tl t)) x=some (.int (t x)):=KZ rfl rfl rfl rfl rfl rfl
theorem cz{x:Int}{l:List Int}{r:Bool}(h:decide (x∈l)=r):uh (.int x) (vi l)=some r:=by
 have c:((vi l).all λy=>V.bT 8 y (.int x))=true:=by rw[Zo];exact S9.mpr λ_ _=>rfl
 unfold uh;rw[aZ,aG c,←h];refine bk some (decide_eq_decide.mpr ⟨λh=> ?_,λh=>SW.mpr ⟨_,h,rfl⟩⟩);obtain⟨i,h1,h2⟩:=SW.mp h;cases h2;exact h1
section
variable(n:Nat)(s:St)
noncomputable abbrev mH(s:St):ai:=[wO I s,.aM,.aM,.aM,.aM,.aM,.aM,.aM,.aM,.aM,.aM,.aM,qV s]
theorem Q6(r:Int)(hs:s.bh.length<64):aq (vM n (((aY .jB 0).ex).arg 0) [.ref 0,.int r,.af,.af] (.ref 12) (mH s)) (.ref 13) (mH s++[aj (bO s.bh r)]):=by
 have h:=pq.zp (n:=n) (t:= .iJ [2,3]) (v:= .ref 12) (cs:=((aY .jB 0).ex.arg 0).cs) (el:= .zv 3) (env:=[.ref 0,.int r,.af,.af]) (m:=mH s) (c:=aR) (l:=s.bh) (g:= λp=>if p.1=r then some p.2 else none) rfl (SM hs (by decide)) λx _=>by
  by_cases c:x.1=r
  ·rw[aG c]
   exact gC (kB 0 (aT (aC c))<|kI 1 (some (SP aR s.bh))<|kE)
  ·rw[aJ c]
   exact gC (kB 0 (aT (aH c))<|kI 1 (some (SP aR s.bh))<|kE)
 rw[aaO] at h;exact h
theorem r8(l:List (Int×Int))(r:Int):(bO l r).length≤l.length:=by unfold bO;rw[Sy];exact WI ..
theorem abH(r:Int)(hs:s.bh.length<64):aq (aE (n+1) .jB [.ref 0,.int r] (mH s)) (.ref 13) (mH s++[aj (aB (bO s.bh r))]):=
 gN 14 rfl (eO (aB (bO s.bh r))) rfl (kC 1 (Q6 n s r hs)<|kO 0 ((λm=>zf m 13 (l:=bO s.bh r) (Sz (r8 s.bh r) hs)) (mH s++[aj (bO s.bh r)]) rfl)<|gZ 0)
theorem w5(r:Int)(hs:s.bh.length<64)(M:ai)(g:b7 [(0,wO I s),(12,qV s)] M):aq (aE (n+1) .jB [.ref 0,.int r] M) (.ref M.next) (M.push (aj (aB (bO s.bh r)))):=
 rM (abH n s r hs) (Em.at_ (gs:=[(0,wO I s),(1,.aM),(2,.aM),(3,.aM),(4,.aM),(5,.aM),(6,.aM),(7,.aM),(8,.aM),(9,.aM),(10,.aM),(11,.aM),(12,qV s)]) g rfl rfl
  (ec rfl (ec rfl (ec rfl (ec rfl (ec rfl (ec rfl (ec rfl (ec rfl (ec rfl (ec rfl (ec rfl (ec rfl (ec (dK _ aR (λ_=>rfl) _) rfl))))))))))))) (abv rfl)) (rP _ _)
noncomputable abbrev mW(s:St)(aF:List Int)(ex:ai):ai:=[wO I s,aj (tl s.av),aj (tl s.aI),.aM,.aM,.aM,.aM,.aM,.aM,.aM,.aM,.aM,qV s,aj aF]++ex
theorem Ml(aF:List Int):aq (vM n (aY .lJ 0).ex [.ref 0,.af,.af,.af,.af] (.range 0 6) (mW s aF [])) (.ref 14) (mW s aF [aj (ah (aA s.av))]):=by
 have h:=pq.zp (n:=n) (t:= .aA 3) (v:= .range 0 6) (cs:=(aY .lJ 0).ex.cs) (el:= .zv 3) (env:=[.ref 0,.af,.af,.af,.af]) (m:=mW s aF []) (c:=V.int) (l:=U6) (g:= λx=>if aA s.av x=true then some x else none) rfl (by decide) λx hx=>by
  by_cases c:s.av x=1
  ·rw[aG (show aA s.av x=true from aC c)]
   exact gC (kV 1 (kg s.av x hx)<|kB 0 (aT (aC c))<|kI 1 (some (SP V.int U6))<|kE)
  ·rw[aJ (show¬aA s.av x=true fromλz=>c (of_decide_eq_true z))]
   exact gC (kV 1 (kg s.av x hx)<|kB 0 (aT (aH c))<|kI 1 (some (SP V.int U6))<|kE)
 rw[ku] at h;exact h
theorem Ol(aF:List Int)(a:O):aq (vM n (aY .lJ 1).ex [.ref 0,.ref 14,.af,.af,.af] (.range 0 6) (mW s aF [a])) (.ref 15) (mW s aF [a,aj (ah (aA s.aI))]):=by
 have h:=pq.zp (n:=n) (t:= .aA 4) (v:= .range 0 6) (cs:=(aY .lJ 1).ex.cs) (el:= .zv 4) (env:=[.ref 0,.ref 14,.af,.af,.af]) (m:=mW s aF [a]) (c:=V.int) (l:=U6) (g:= λx=>if aA s.aI x=true then some x else none) rfl (by decide) λx hx=>by
  by_cases c:s.aI x=1
  ·rw[aG (show aA s.aI x=true from aC c)]
   exact gC (kV 1 (kg s.aI x hx)<|kB 0 (aT (aC c))<|kI 1 (some (SP V.int U6))<|kE)
  ·rw[aJ (show¬aA s.aI x=true fromλz=>c (of_decide_eq_true z))]
   exact gC (kV 1 (kg s.aI x hx)<|kB 0 (aT (aH c))<|kI 1 (some (SP V.int U6))<|kE)
 rw[ku] at h;exact h
end
end
section
noncomputable def pG(aF:List Int)(x:Int):Bool:=decide (x∈aF)
theorem Ca{M:ai}{a:Nat}{x:Int}{l:List Int}{r:Bool}(hw:M.get a=some (aj l))(h:decide (x∈l)=r):As (.int x) (.ref a) M=some r:=by show(M.get a).bind (O.mem (.int x))=_;rw[hw];exact cz h
theorem NL(h aF:List Int):some (decide ((((vi h).length:Nat):Int)<2*(((vi (h.filter (pG aF))).length:Nat):Int)))=some (CR h (pG aF)):=by unfold CR;rw[Sy,Sy];exact bk some (decide_eq_decide.mpr (by omega))
noncomputable def gi(a b:List Int)(p:Int→Bool):Bool:=(if b=[] then[CR a p] else[CR a p,CR b p]).all id
section
variable(n:Nat)(s:St)
theorem Gk(aF h:List Int)(k:Nat)(M:ai)(hw:M.get 13=some (aj aF))(hk:aO (.ref k) M=some (vi h))(hl:h.length<64):aq (vM n ((((aY .fR 0).ex.arg 0).el.lf.rt).arg 0) [.ref 0,.ref 13,.ref k,.af] (.ref k) M) (.ref M.next) (M.push (aj (h.filter (pG aF)))):=by
 have q:=pq.zp (n:=n) (t:= .aA 3) (v:= .ref k) (cs:=((((aY .fR 0).ex.arg 0).el.lf.rt).arg 0).cs) (el:= .zv 3) (env:=[.ref 0,.ref 13,.ref k,.af]) (m:=M) (c:=V.int) (l:=h) (g:= λx=>if pG aF x=true then some x else none) hk (SM hl (by decide)) λx hx=>by
  cases c:pG aF x with
  |true=>exact gC (kB 0 (Ca hw c)<|kG 1 hk<|kE)
  |false=>exact gC (kB 0 (Ca hw c)<|kG 1 hk<|kE)
 rw[ku] at q;exact q
theorem ahg(aF:List Int):aq (aE (n+2) .fR [.ref 0,.ref 13] (mW s aF [])) (.bool (gi (ah (aA s.av)) (ah (aA s.aI)) (pG aF))) (mW s aF []):=by
 have l1:(ah (aA s.av)).length<64:=Sz (cQ _) (by decide);have l2:(ah (aA s.aI)).length<64:=Sz (cQ _) (by decide);unfold gi;by_cases h:ah (aA s.aI)=[]
 ·rw[aG h]
  have hg:=Ol n s aF (aj (ah (aA s.av)));rw[h] at hg;exact gS rfl rfl (kC 2 (Ml n s aF)<|kC 1 hg<|kC 6 (Gk (n+1) aF (ah (aA s.av)) 14 (mW s aF [aj (ah (aA s.av)),aj [],.list [.ref 14]]) rfl rfl l1)<|kB 3 (NL (ah (aA s.av)) aF)<|gZ 3)
 ·rw[aJ h]
  have hn:vi (ah (aA s.aI))≠[]:= λe=>h (UI.mp e);exact gS rfl rfl (kC 2 (Ml n s aF)<|kC 1 (Ol n s aF (aj (ah (aA s.av))))<|kB 0 (AS hn)<|kC 5 (Gk (n+1) aF (ah (aA s.av)) 14 (mW s aF [aj (ah (aA s.av)),aj (ah (aA s.aI)),.list [.ref 14,.ref 15]]) rfl rfl l1)<|kB 3 (NL (ah (aA s.av)) aF)<|kC 1 (Gk (n+1) aF (ah (aA s.aI)) 15 (mW s aF [aj (ah (aA s.av)),aj (ah (aA s.aI)),.list [.ref 14,.ref 15],aj ((ah (aA s.av)).filter (pG aF))]) rfl rfl l2)<|kB 3 (NL (ah (aA s.aI)) aF)<|gZ 3)
theorem ou(aF:List Int)(a:Nat)(ha:UC 13 a=true)(M:ai)(g:b7 [(0,wO I s),(1,aj (tl s.av)),(2,aj (tl s.aI)),(12,qV s),(a,aj aF)] M):aq (aE (n+2) .fR [.ref 0,.ref a] M) (.bool (gi (ah (aA s.av)) (ah (aA s.aI)) (pG aF))) M:=by
 have ha:=TF ha;have e:∀k,k<13→(!Nat.beq k a)=true:= λk hk=>by
  cases q:SA k a with
  |false=>rfl
  |true=>exact absurd (T8 q) (T9 (SX hk ha))
 have nd:wk [0,1,2,12,a]=true:=by show((_&&(_&&(_&&(!Nat.beq 0 a&&true))))&&((_&&(_&&(!Nat.beq 1 a&&true)))&&((_&&(!Nat.beq 2 a&&true))&&((!Nat.beq 12 a&&true)&&(true&&true)))))=true;rw[e 0 (by decide),e 1 (by decide),e 2 (by decide),e 12 (by decide)];rfl
 exact eB (ahg n s aF) (Em.at_ (gs:=[(0,wO I s),(1,aj (tl s.av)),(2,aj (tl s.aI)),(3,.aM),(4,.aM),(5,.aM),(6,.aM),(7,.aM),(8,.aM),(9,.aM),(10,.aM),(11,.aM),(12,qV s),(a,aj aF)]) g rfl nd
  (ec rfl (ec (az _ _) (ec (az _ _) (ec rfl (ec rfl (ec rfl (ec rfl (ec rfl (ec rfl (ec rfl (ec rfl (ec rfl (ec (dK _ aR (λ_=>rfl) _) (ec (az _ _) rfl)))))))))))))) λp hp=>by
   rcases TQ.mp (show p∈[(0,wO I s),(1,aj (tl s.av)),(2,aj (tl s.aI)),(3,O.aM),(4,.aM),(5,.aM),(6,.aM),(7,.aM),(8,.aM),(9,.aM),(10,.aM),(11,.aM),(12,qV s)]++[(a,aj aF)] from hp) with h|h
   ·obtain⟨q,hq,le⟩:=abv (gl:=[(12,qV s)]) rfl p h
    exact⟨q,by rw[Tp.mp hq];simp,le⟩
   ·exact⟨p,by rw[Tp.mp h];simp,SQ _⟩)
end
end
section
theorem aaJ{k:Nat}(h:k<256)(j:Nat)(hj:8≤j):k&&&(2^j-1)=k:=by rw[Nat.and_two_pow_sub_one_eq_mod,X9 (SX h (ap9 (n:=2) (by decide) hj))]
theorem aaT{k:Nat}(h:k<256)(x:Int)(hx:0≤x)(j:Nat)(hj:8≤j)(e:x.toNat=2^j-1):(Op.nC .Hg (k:Int) x).map V.int=some (.int k):=by show Ua V.int (if 0≤(k:Int)∧0≤x then some (((k:Int).toNat&&&x.toNat:Nat):Int) else none)=_;rw[aG ⟨Tw k,hx⟩,Ug,e,aaJ h j hj];rfl
theorem IS{k:Nat}(h:k<256)(j:Nat)(hj:8≤j)(hj':j≤64):(Op.nC .shr (k:Int) (j:Int)).map V.int=some (.int 0):=by
 show Ua V.int (if 0≤(j:Int)∧(j:Int)≤64 then some ((k:Int).fdiv (2^((j:Int).toNat))) else none)=_;have h1:(2:Int)^8≤2^j:=by exact_mod_cast ap9 (by decide:0<2) hj
 have h2:(k:Int)<2^8:=by exact_mod_cast h
 rw[aG ⟨Tw j,by exact_mod_cast hj'⟩,Ug,X6 _ (TX (by decide) h1),Int.ediv_eq_zero_of_lt (Tw k) (V6 h2 h1)];rfl
theorem HV{k:Nat}:(Op.nC .bor (k:Int) 0).map V.int=some (.int k):=by show Ua V.int (if 0≤(k:Int)∧(0:Int)≤0 then some (((k:Int).toNat|||(0:Int).toNat:Nat):Int) else none)=_;rw[aG ⟨Tw k,by decide⟩,Ug];show some (V.int ((k|||0:Nat):Int))=_;rw[Nat.or_zero]
theorem aaY{k:Nat}{b:Nat}(h:k<b):some (decide ((b:Int)<(k:Int)))=some false:=bk some (aH (by omega))
theorem P9{k:Nat}(h:k<256):wW (.ref 0) [.list [.int k,.int 0,.int 0,.int 0]]=some (.bytes [TS k,0,0,0]):=by
 have h1:((([(k:Int),0,0,0]:List Int).all λi=>decide (0≤i)&&decide (i<256))=true):=by show(decide (0≤(k:Int))&&decide ((k:Int)<256)&&true)=true;rw[aC (Tw k),aC (show(k:Int)<256 by exact_mod_cast h)];rfl
 show aZ _ _=_;exact aG h1
theorem En(k:Nat){rest:List UInt8}(hr:rest.length<1000)(i:Nat)(x:UInt8)(hi:(mG k)[i]? =some x):item (.bytes (mG k++rest)) (.int i) []=some (.int x.toNat):=by
 show((V.int (i:Int)).fk.bind λi=>if 0≤i∧(mG k++rest).length<ay then((mG k++rest)[i.toNat]?).map λx=>V.int x.toNat else none)=_;have hl:(mG k++rest).length<ay:=by rw[S4];show 8+rest.length<1048576;omega
 have hi8:i<(mG k).length:=(Vq.mp hi).1;show(if 0≤(i:Int)∧(mG k++rest).length<ay then((mG k++rest)[(i:Int).toNat]?).map λx=>V.int x.toNat else none)=_;rw[aG ⟨Tw i,hl⟩,Ug,Ve hi8,hi];rfl
theorem yr(k:Nat){rest:List UInt8}(hr:rest.length<1000):(aZ ((mG k++rest).length<ay) (mG k++rest).length).map (λn:Nat=>V.int (n:Int))=some (.int ((mG k++rest).length:Int)):=by
 have hl:(mG k++rest).length<ay:=by rw[S4];show 8+rest.length<1048576;omega
 rw[aZ,aG hl];rfl
theorem u8{k:Nat}(h:k<256):some (V.int ((TS k).toNat:Int))=some (.int k):=by rw[Zq,X9 h]
section
variable(n:Nat)
theorem ahK{k:Nat}(h:k<256):aq (aE (n+1) .mw [.int k] []) (.bytes [TS k,0,0,0]) []:=
 gS rfl rfl (kB 2 (aaY (k:=k) (b:=4294967295) (SM h (by decide)))<|kV 1 (aaT h 255 (by decide) 8 (by decide) rfl)<|kV 0 (IS h 8 (by decide) (by decide))<|kV 1 (IS h 16 (by decide) (by decide))<|kV 1 (IS h 24 (by decide) (by decide))<|kV 1 (P9 h)<|gZ 0)
theorem Jp(k:Nat)(h:k<256)(M:ai)(g:b7 [] M):aq (aE (n+1) .mw [.int k] M) (.bytes [TS k,0,0,0]) M:=eB (ahK n h) (Em.of g rfl rfl rfl)
theorem af6{k:Nat}(h:k<256):aq (aE (n+2) .jW [.int k] []) (.bytes (mG k)) []:=
 gS rfl rfl (kB 2 (aaY (k:=k) (b:=18446744073709551615) (SM h (by decide)))<|kV 1 (aaT h 4294967295 (by decide) 32 (by decide) rfl)<|kR 0 (Jp n k h)<|kV 0 (IS h 32 (by decide) (by decide))<|kR 0 (Jp n 0 (by decide))<|gZ 1)
theorem I9(k:Nat)(h:k<256)(M:ai)(g:b7 [] M):aq (aE (n+2) .jW [.int k] M) (.bytes (mG k)) M:=eB (af6 n h) (Em.of g rfl rfl rfl)
theorem QB{k:Nat}{rest:List UInt8}(h:k<256)(hr:rest.length<1000):aq (aE (n+1) .kY [.bytes (mG k++rest),.int 0] []) (.int k) []:=
 gS rfl rfl (kV 3 (yr k hr)<|kV 2 ((En k hr 0 (TS k) rfl).trans (u8 h))<|kV 1 (En k hr 1 0 rfl)<|kV 1 (HV (k:=k))<|kV 1 (En k hr 2 0 rfl)<|kV 1 (HV (k:=k))<|kV 1 (En k hr 3 0 rfl)<|kV 1 (HV (k:=k))<|gZ 0)
theorem aar{k:Nat}{rest:List UInt8}(h:k<256)(hr:rest.length<1000):aq (aE (n+1) .kY [.bytes (mG k++rest),.int 4] []) (.int 0) []:=
 gS rfl rfl (kV 3 (yr k hr)<|kV 2 (En k hr 4 0 rfl)<|kV 1 (En k hr 5 0 rfl)<|kV 3 (En k hr 6 0 rfl)<|kV 3 (En k hr 7 0 rfl)<|gZ 2)
theorem abJ{k:Nat}{rest:List UInt8}(h:k<256)(hr:rest.length<1000):aq (aE (n+2) .oA [.bytes (mG k++rest),.int 0] []) (.int k) []:=
 gS rfl rfl (kV 3 (yr k hr)<|kC 2 (QB n h hr)<|kC 1 (aar n h hr)<|kV 1 (HV (k:=k))<|gZ 0)
theorem Dt(k:Nat)(rest:List UInt8)(h:k<256)(hr:rest.length<1000)(M:ai)(g:b7 [] M):aq (aE (n+2) .oA [.bytes (mG k++rest),.int 0] M) (.int k) M:=eB (abJ n h hr) (Em.of g rfl rfl rfl)
end
end
section
theorem D7{i j:Nat}(hi:i<200)(hj:j<200)(h:eV i=eV j):i=j:=by have q:=bk UInt8.toNat (Xe h).1;rw[Zq,Zq,X9 (Sz hi (by decide)),X9 (Sz hj (by decide))] at q;exact VH q
theorem Ew{i j:Nat}(hi:i<200)(hj:j<200)(h:i≠j):aP i≠aP j:= λe=>h (D7 hi hj (V.bytes.inj e))
theorem uE{f:Nat→V}{k:Nat}(hk:k<200){l:List Nat}(hl:∀i∈l,i<200):look (aP k) (l.map λr=>(aP r,f r))=if k∈l then some (f k) else none:=by
 induction l with
 |nil=>rfl
 |cons y l ih=>
  rw[TV,lg,ih λi hi=>hl i (S0 _ hi)];by_cases h:y=k
  ·subst h;rw[aG rfl,aG SI]
  ·rw[aJ (Ew (hl y SI) hk h)]
   by_cases c:k∈l
   ·rw[aG c,aG (S0 _ c)]
   ·rw[aJ c,aJ λm=>(SO.mp m).elim (λe=>h e.symm) c]
theorem aa1{n k:Nat}(h:k<n):n-k=n-(k+1)+1:=(Nat.succ_sub_succ n k).symm.trans (Zr h)
theorem i8{s:St}{k:Nat}:k∈bC s↔s.aS≤k∧k<s.nn:=by unfold bC;rw[aqa];exact and_congr_right λh=>by rw[←Nat.sub_lt_iff_lt_add' h,Nat.sub_lt_sub_iff_right h]
theorem Bm{s:St}(h:s.nn≤13):∀i∈bC s,i<200:= λi hi=>SX (i8.mp hi).2 (SG h (by decide))
noncomputable abbrev tbR(k:Nat):Nat:=Am (I 47) [I 52,I 57,I 62,I 67,I 72,I 77,I 82,I 87,I 92,I 97,I 102,I 107] k
noncomputable abbrev o6(s:St):List (V×V):=(bC s).map λr=>(aP r,.ref (tbR r))
theorem qy{s:St}(hn:s.nn≤13){k:Nat}(h1:s.aS≤k)(h2:k<s.nn):look (aP k) (o6 s)=some (.ref (tbR k)):=
 (uE (SX h2 (SG hn (by decide))) (Bm hn)).trans (aG (i8.mpr ⟨h1,h2⟩))
theorem AE{s:St}(hn:s.nn≤13){k:Nat}(h1:k<s.aS)(h2:k<s.nn):look (aP k) (o6 s)=none:=
 (uE (SX h2 (SG hn (by decide))) (Bm hn)).trans (aJ λm=>absurd (i8.mp m).1 (Wg.mpr h1))
noncomputable def upTo(s:St)(k:Nat):St:={s with aS:=k}
theorem Jv{s:St}{k:Nat}(h:k<s.nn):bC (upTo s k)=k::bC (upTo s (k+1)):=by unfold bC upTo;show Uv k (s.nn-k)=k::Uv (k+1) (s.nn-(k+1));rw[aa1 h,apz]
theorem KQ{s:St}(hn:s.nn≤13){k:Nat}(h:k<s.nn):drop (aP k) (o6 (upTo s k))=o6 (upTo s (k+1)):=by
 have hk:k<200:=SX h (SG hn (by decide));unfold drop o6;rw[Jv h,TV,T6,aJ (by rw[aC (rfl:aP k=aP k)];exact Tc)];refine ap1.mpr λp hp=> ?_;obtain⟨i,hi,rfl⟩:=SW.mp hp;have:=(i8.mp hi).1;have q:aP i≠aP k:=Ew (Bm (s:=upTo s (k+1)) hn i hi) hk λe=>by subst e;exact absurd this (Nat.not_succ_le_self _)
 show(!decide (aP i=aP k))=true;rw[aH q];rfl
theorem ahG(M:ai)(a:Nat){k v:V}{kk:KK}{es es':List (V×V)}(e:look k es=some v)(d:drop k es=es')(hk:kindOf k=some kk)(h:M.get a=some (.dict kk es)):Ri (.ref a) k M=.ok v (M.xd a (.dict kk es')):=by show((M.get a).bind O.Ft).bind _=_;rw[h];show(if kindOf k=some kk then(look k es).map λv=>(v,M.xd a (.dict kk (drop k es))) else none)=_;rw[aG hk,e,d];rfl
theorem ag0{s:St}{k:Nat}(h1:s.aS≤k)(h2:k<s.nn)(hn:s.nn≤13):bA ((bC s).map aP) ((k-s.aS:Nat):Int)=some (aP k):=by
 unfold bA;have:¬ay≤((k-s.aS:Nat):Int).natAbs:=by unfold ay;omega
 rw[aJ this,aG (Tw _),Ug,Tz];unfold bC;rw[List.getElem?_range' (by omega)];show some (aP (s.aS+1*(k-s.aS)))=_;rw[Yb,UJ h1]
theorem afR(a b:Nat)(ha:a<200)(hb:b<200):om (.bytes (eV a)) (.bytes (eV b)) []=some (decide (a+1=b+1)):=by have e:decide (V.bytes (eV a)=.bytes (eV b))=decide (a+1=b+1):=decide_eq_decide.mpr ⟨λh=>bk (· +1) (D7 ha hb (V.bytes.inj h)),λh=>by rw[VH h]⟩;show some (decide (V.bytes (eV a)=.bytes (eV b)))=_;rw[e]
section
variable(n:Nat)(s:St)
noncomputable def J6(i:Nat):V:= .bJ [.int (s.ix i),.ref (49+5*i)]
noncomputable def Bl(k:Nat):List V:=(Uv s.aS (k-s.aS)).map (J6 s)
theorem JH{k:Nat}(h:s.aS≤k):Bl s k++[J6 s k]=Bl s (k+1):=by unfold Bl;rw[Zr h,Zs,TA,Yb,UJ h];rfl
noncomputable def z0(K P:Nat→Bool)(a b:O)(k:Nat):ai:=((gY I (upTo s k) K P).set 0 (wO I s)).set 22 (aaF s)++[a,b,.list (Bl s k)]
noncomputable def CK(b:Nat→Bool)(r k:Nat):List V:=[.ref 11,.bytes (eV r),.ref 114,.int ((k-s.aS:Nat):Int),.bool (b k),.af,.af]
noncomputable def rg(r k:Nat):Bool:=decide (k=r+1)
theorem aeZ{P:Nat→Prop}(h0:P 0)(h1:P 1)(h2:P 2)(h3:P 3)(h4:P 4)(h5:P 5)(h6:P 6)(h7:P 7)(h8:P 8)(h9:P 9)(h10:P 10)(h11:P 11)(h12:P 12):∀k,k<13→P k
 |0,_=>h0|1,_=>h1|2,_=>h2|3,_=>h3|4,_=>h4|5,_=>h5|6,_=>h6|7,_=>h7|8,_=>h8|9,_=>h9|10,_=>h10|11,_=>h11|12,_=>h12
 |k+13,h=>absurd h (TL.mpr (Xa ..))
theorem sE{β:Type}{L R:Nat→β}(h:(Sw 13).map L=(Sw 13).foldr (λa t=>R a::t) [])(k:Nat)(hk:k<13):L k=R k:=O8 h k (UM.mpr hk)
theorem O7{A B:Type}{L R:Nat→A→B→Prop}(h:(Sw 13).map L=(Sw 13).foldr (λa t=>R a::t) [])(k:Nat)(hk:k<13)(a:A)(b:B):L k a b=R k a b:=congrFun (congrFun (O8 h k (UM.mpr hk)) a) b
theorem ae6{A B C:Type}{L R:Nat→A→B→C→Prop}(h:(Sw 13).map L=(Sw 13).foldr (λa t=>R a::t) [])(k:Nat)(hk:k<13)(a:A)(b:B)(c:C):L k a b c=R k a b c:=congrFun (congrFun (congrFun (O8 h k (UM.mpr hk)) a) b) c
theorem JG(K P:Nat→Bool)(a b:O)(e:Nat→Bool)(r:Nat):∀k,k<13→some (e k)=some false→bA ((bC s).map aP) ((k-s.aS:Nat):Int)=some (aP k)→(Op.nC .add ((k-s.aS:Nat):Int) 1).map V.int=some (.int ((k+1-s.aS:Nat):Int))→
  Ri (.ref 21) (aP k) (z0 s K (λi=>SA i k||P i) a b k)=.ok (.ref (tbR k)) ((z0 s K (λi=>SA i k||P i) a b k).xd 21 (.dict .bytes (o6 (upTo s (k+1)))))→Bl s k++[J6 s k]=Bl s (k+1)→(Bl s k).length<ay→om (aP k) (.bytes (eV r)) []=some (e (k+1))→
  Pb n (.not (.zv 4)) (aY .c7 4).body [5,6] (CK s e r k) (z0 s K (λi=>SA i k||P i) a b k) (CK s e r (k+1)) (z0 s K (λi=>SA i k||P i) a b (k+1)):=by
 intro k hk g1 g2 g3 g4 g6 g7 g8;exact goW (λ_=>j8 0 g1<|jj 2 g2<|jj 0 g3<|chO 2 g4<|ED 3 g7 g6<|j8 0 g8<|zF) (by clear g1 g2 g3 g4 g6 g7 g8;revert k;exact ae6 (by kernel_rfl))
theorem Rm(r:Nat)(M:ai):ahq n (.not (.zv 4)) (aY .c7 4).body [5,6] (CK s (rg r) r (r+1)) M:=
 ⟨[(0,.b true)],λi J Q h=>by have e:rg r (r+1)=true:=aC rfl;exact cast (by kernel_rfl:(some (rg r (r+1))=some true∧Q (.next (CK s (rg r) r (r+1))) M)=_) ⟨bk some e,h⟩⟩
theorem acZ(K P:Nat→Bool)(a b:O)(r:Nat)(hn:s.nn≤13)(h1:s.aS≤r)(h2:r<s.nn)(hP:∀k,s.aS≤k→k≤r→P k=true):aq (WhS n (aY .c7 4) [.ref 11,.bytes (eV r),.ref 114,.int 0,.bool false,.af,.af] (gY I s K P++[a,b,.list []])) (.next (CK s (rg r) r (r+1))) (z0 s K P a b (r+1)):=by
 have e0:CK s (rg r) r s.aS=[.ref 11,.bytes (eV r),.ref 114,.int 0,.bool false,.af,.af]:=by unfold CK rg;rw[Wi,aH (T9 (aqb h1))];rfl
 have h:=WhC.run (n:=n) (e:= .not (.zv 4)) (body:=(aY .c7 4).body) (bf:=[5,6]) (E:=CK s (rg r) r) (M:=z0 s K P a b) s.aS (r+1) (Th h1) (λk k1 k2=>by
  have kn:k<s.nn:=Sz (VB k2) h2;have k13:k<13:=SX kn hn;have t:=JG n s K P a b (rg r) r k k13 (bk some (aH (T9 k2))) (ag0 k1 kn hn) (rj (by omega)) (ahG _ 21 (qy (s:=upTo s k) hn (SQ _) kn) (KQ hn kn) rfl rfl) (JH s k1)
   (by unfold Bl ay;rw[Sy,Wn];omega) (afR k r (by omega) (by omega))
  rw[pY (hP k k1 (VB k2))] at t;exact t) (Rm n s r _)
 have e1:z0 s K P a b s.aS=gY I s K P++[a,b,.list []]:=by
  unfold z0 Bl;rw[Wi]
  kernel_rfl
 rw[e0,e1] at h;exact h
end
end
section
theorem QX{i j:Int}{r:Bool}{l:List (Int×Int)}(h:decide ((i,j)∈l)=r):uh (aR (i,j)) (l.map aR)=some r:=by
 have c:((l.map aR).all λy=>V.bT 8 y (aR (i,j)))=true:=by rw[Zo];exact S9.mpr λ_ _=>rfl
 unfold uh;rw[aZ,aG c,←h];refine bk some (decide_eq_decide.mpr ⟨λh=> ?_,λh=>SW.mpr ⟨_,h,rfl⟩⟩);obtain⟨⟨a,b⟩,h1,h2⟩:=SW.mp h;cases h2;exact h1
theorem Hs{i j:Int}{r:Bool}{l:List (Int×Int)}(h:decide ((i,j)∈l)=r):(uh (aR (i,j)) (l.map aR)).map (! ·)=some (!r):=bk (Ua (! ·)) (QX h)
theorem vh{c:Nat→V}{r n:Nat}(h:r<n)(hn:n≤13):bA ((Sw n).map c) (r:Int)=some (c r):=by
 have:¬ay≤(r:Int).natAbs:=by unfold ay;omega
 unfold bA;rw[aJ this,aG (Tw _),Ug,Tz,Wj h];rfl
theorem NC(l:List V)(h:∀v∈l,V.bT 8 v v=true):aZ (((l.zip l).all λp=>V.bT 8 p.1 p.2)=true) (decide (l=l))=some true:=by
 have c:((l.zip l).all λp=>V.bT 8 p.1 p.2)=true:=by
  have:∀l:List V,(∀v∈l,V.bT 8 v v=true)→((l.zip l).all λp=>V.bT 8 p.1 p.2)=true:= λl=>by
   induction l with
   |nil=>exactλ_=>rfl
   |cons v l ih=>exactλh=>Sn.mpr ⟨h v SI,ih λx hx=>h x (S0 _ hx)⟩
  exact this l h
 rw[aZ,aG c,aC rfl]
theorem xJ(l:List Int):(aZ ((((vi l).zip (vi l)).all λp=>V.bT 8 p.1 p.2)=true) (decide (vi l=vi l))).map (! ·)=some false:=
 bk (Ua (! ·)) (NC (vi l) λv hv=>by obtain⟨i,_,rfl⟩:=SW.mp hv;rfl)
noncomputable def amV(s:St)(r:Nat)(aF:Int):St:=if((r:Int),aF)∈s.bh then s else{s with bh:=s.bh++[((r:Int),aF)]}
theorem Ja{l:List (Int×Int)}{r aF:Int}:aF∈bO l r↔(r,aF)∈l:=by
 unfold bO;rw[SW];constructor
 ·rintro ⟨⟨a,b⟩,h,rfl⟩
  obtain⟨h1,h2⟩:=Ux.mp h;have:=of_decide_eq_true h2;subst this;exact h1
 ·exactλh=>⟨_,Ux.mpr ⟨h,aC rfl⟩,rfl⟩
theorem KY(l:List (Int×Int))(r aF:Int):bO (l++[(r,aF)]) r=bO l r++[aF]:=by unfold bO;rw[Zt,TA,T6,aG (aC rfl)];rfl
theorem FD(l:List Int)(x:Int):lk (CT l) x=if x∈l then some true else none:=by
 induction l with
 |nil=>rfl
 |cons y l ih=>
  unfold lk CT at*;rw[TV,Tj,ih];by_cases h:x=y
  ·rw[beq_iff_eq.mpr h,h,aG SI]
  ·rw[beq_eq_false_iff_ne.mpr h]
   by_cases c:x∈l
   ·rw[aG c,aG (S0 _ c)]
   ·rw[aJ c,aJ λm=>(SO.mp m).elim h c]
theorem GO{k v:V}{es:List (V×V)}(h:∀p∈es,p.2=v)(hk:(look k es).isSome=true):bR k v es=es:=by
 induction es with
 |nil=>exact gg hk
 |cons p es ih=>
  rw[lg] at hk;unfold bR;by_cases c:p.1=k
  ·rw[aG c,←h p SI]
  ·rw[aJ c] at hk
   rw[aJ c,ih (λq hq=>h q (S0 _ hq)) hk]
noncomputable def j0(x:Int)(l:List Int):List Int:=if x∈l then l else l++[x]
theorem Ln(l:List Int)(x:Int):bR (.int x) (.bool true) (jM (CT l))=jM (CT (j0 x l)):=by
 unfold j0;by_cases h:x∈l
 ·rw[aG h]
  refine GO (λp hp=> ?_) ?_
  ·obtain⟨q,hq,rfl⟩:=SW.mp hp
   obtain⟨i,_,rfl⟩:=SW.mp hq;rfl
  ·rw[lQ (FD ..),aG h];rfl
 ·rw[aJ h,AA true ((FD ..).trans (aJ h))]
  exact bk jM (TA (l₂:=[x])).symm
theorem MJ(a:Nat){l:List Int}(hl:l.length<64)(M:ai)(g:b7 [(a,.dict .int (jM (CT l)))] M):eT (.ref a) M=.ok (.ref M.next) (M.push (aj (aB l))):=by
 have h:M.get a=some (.dict .int (jM (CT l))):=by
  have q:[O.dict .int (jM (CT l))]=[(M.get a).getD .aM]:=g;cases e:M.get a with
  |none=>rw[e] at q;exact nomatch q
  |some o=>rw[e] at q;exact bk some (Xe q).1.symm
 unfold eT;show(M.get a).bind _=_;rw[h];show(jx ((jM (CT l)).map (·.1))).bind _=_;rw[show(jM (CT l)).map (·.1)=vi l from by rw[T4,T4];rfl,m9];exact aG hl
section
variable(n:Nat)(s:St)
noncomputable abbrev hh(s:St)(r:Nat):List Int:=aB (bO s.bh r)
noncomputable abbrev Aa(r:Nat)(s:St):ai:=gY I s (λj:Nat=>ao s j) (λi=>SA i r||oZ s i)
theorem ad9(r:Nat)(aF:Int)(h:((r:Int),aF)∈s.bh)(hn:s.nn≤13)(h1:r<s.aS)(h2:r<s.nn)(hs:s.bh.length<60):aq (aE (n+3) .ee [.ref 0,.int aF,.int r] (mem s)) (.bool true) (mem s++[aj (hh s r),.dict .int []]):=
 gF rfl (kV 1 (vh (c:=aP) h2 hn)<|kB 1 (Hs (aC h))<|jE 1 (w5 (n+1) s r (SM hs (by decide)))<|kB 4 (iB (AE hn h1 h2))<|kB 2 (eZ (aC (TH.mpr h1)))<|kE)
theorem aci(r:Nat)(aF:Int)(h:((r:Int),aF)∉s.bh)(hn:s.nn≤13)(h1:r<s.aS)(h2:r<s.nn)(hs:s.bh.length<60):aq (aE (n+3) .ee [.ref 0,.int aF,.int r] (mem s)) (.bool true) (mem {s with bh:=s.bh++[((r:Int),aF)]}++[aj (hh {s with bh:=s.bh++[((r:Int),aF)]} r),.dict .int []]):=
 gF rfl (kV 1 (vh (c:=aP) h2 hn)<|kB 1 (Hs (aH h))<|Hi 3 (jP (f:=aR) (SM hs (by decide:60<1048576))) (nI aR s.bh ((r:Int),aF))<|jE 0 (w5 (n+1) {s with bh:=s.bh++[((r:Int),aF)]} r (by rw[S4];exact Nat.add_lt_add hs (by decide:1<4)))<|kB 4 (iB (AE hn h1 h2))<|kB 2 (eZ (aC (TH.mpr h1)))<|kE)
end
end
section
section
variable(n:Nat)(s:St)
theorem ak3(k:Nat):aq (aE (n+2) .gu [.ref 0] [ki s k 1,.list [.ref 2],j7 k]) (OP k (s.fr k)) [ki s k 1,.list [.ref 2],j7 k]:=
 gS rfl rfl (kS 10 (V.bJ [V.int 0,V.int 0,V.int 0,V.bytes [TS k]]) ([ki s k 1,O.list [V.ref 2],j7 k]) rfl<|gZ 15)
theorem abw(k a b c:Nat)(hn:wk [a,b,c]=true)(M:ai)(g:b7 [(a,ki s k b),(b,.list [.ref c]),(c,j7 k)] M):aq (aE (n+2) .gu [.ref a] M) (OP k (s.fr k)) M:=
 eB (ak3 n s k) (Em.of g hn (ec rfl (ec rfl (ec rfl rfl))) rfl)
noncomputable def rH(r:Nat):List V:=(Uv s.aS (r+1-s.aS)).map (yu s)
noncomputable def CJ(K P:Nat→Bool)(a b:O)(r:Nat):ai:=(z0 s K P a b (r+1)).set 11 (.inst .fO [(.lU,.int 1),(.iO,.int s.nn),(.eG,.ref 21),(.gO,.ref 115)])++[.list ((bC (upTo s (r+1))).map aP)]
noncomputable def orB(k:Nat)(P:Nat→Bool)(i:Nat):Bool:=SA i k||P i
noncomputable abbrev Qd(aF:Int)(r:Nat)(w:V):List V:=[.ref 0,.int aF,.int r,aP r,.ref 112,.ref (48+5*r),w,.af,.af,.af,.af]
theorem Nb(aF:Int)(w:V)(K P:Nat→Bool)(a b:O)(r:Nat)(bD:List V):∀k,k<13→(∀M,b7 [(49+5*k,ki s k (50+5*k)),(50+5*k,.list [.ref (51+5*k)]),(51+5*k,j7 k)] M→aq (aE (n+2) .gu [.ref (49+5*k)] M) (OP k (s.fr k)) M)→
  aO (.ref 114) (CJ s K (orB k P) a b r)=some bD→AJ (n+2) (.iJ [9,10]) .zn (aY .ee 8).ex.el (Qd aF r w) (.ref 114) bD (J6 s k) (CJ s K (orB k P) a b r) (some (yu s k)) (CJ s K (orB k P) a b r):=by
 intro k hk g1 g2;exact goC (λ_=>HX 1 g1<|chG 0 g2<|zF) (by clear g1 g2;revert k;exact O7 (by kernel_rfl))
theorem af5(aF:Int)(w:V)(K P:Nat→Bool)(a b:O)(r:Nat)(hn:s.nn≤13)(h1:s.aS≤r)(h2:r<s.nn)(hP:∀k,s.aS≤k→k≤r→P k=true):aq (vM (n+2) (aY .ee 8).ex (Qd aF r w) (.ref 114) (CJ s K P a b r)) (.ref 116) (CJ s K P a b r++[.list (rH s r)]):=by
 have h:=pq.fm (n:=n+2) (t:= .iJ [9,10]) (v:= .ref 114) (cs:= .zn) (el:=(aY .ee 8).ex.el) (env:=Qd aF r w) (m:=CJ s K P a b r) (c:=J6 s) (l:=Uv s.aS (r+1-s.aS)) (g:= λk=>some (yu s k)) (by kernel_rfl) (by rw[Wn];unfold ay;omega) λk hk=>by
  have hk:=aqa.mp hk;have k1:k≤r:=by omega
  have t:=Nb n s aF w K P a b r ((Uv s.aS (r+1-s.aS)).map (J6 s)) k (by omega) (abw n s k _ _ _ (aeZ (P:= λk=>wk [49+5*k,50+5*k,51+5*k]=true) rfl rfl rfl rfl rfl rfl rfl rfl rfl rfl rfl rfl rfl k (by omega))) (by kernel_rfl);rw[show orB k P=P from pY (hP k hk.1 k1)] at t;exact t
 rw[VP] at h;exact h
end
end
section
section
variable(n:Nat)(s:St)
noncomputable def j4(l:List (Int×Int))(r:Nat)(aF:Int):St:={s with bh:=l,ak:= λi=>if i=r then j0 aF (s.ak r) else s.ak i}
structure N7(b w:Bool)(l:List (Int×Int))(h:List Int)(jw:Int)(aF:Int)(r:Nat):Prop where
 name:bA ((Sw s.nn).map aP) (r:Int)=some (aP r)
 bh:(uh (aR (r,aF)) (s.bh.map aR)).map (! ·)=some b
 len:(s.bh.map aR).length<ay
 nI:b=true→s.bh.map aR++[aR (r,aF)]=l.map aR
 bN:∀M,b7 [(0,wO I s),(12,.list (l.map aR))] M→aq (aE (n+3) .jB [.ref 0,.int r] M) (.ref M.next) (M.push (aj h))
 has:some (!(look (aP r) (o6 s)).isSome)=some false
 at_:look (aP r) (o6 s)=some (.ref (tbR r))
 room:kindOf (.int aF)=some .int∧(jM (CT (s.ak r))).length<ay
 pD:bR (.int aF) (.bool true) (jM (CT (s.ak r)))=jM (CT (j0 aF (s.ak r)))
 lt:some (decide ((r:Int)<(s.aS:Int)))=some false
 ajA:∀M,b7 [(0,wO I s),(1,aj (tl s.av)),(2,aj (tl s.aI)),(12,.list (l.map aR)),(112,aj h)] M→aq (aE (n+3) .fR [.ref 0,.ref 112] M) (.bool w) M
 keys:∀M,b7 [(48+5*r,.dict .int (jM (CT (j0 aF (s.ak r)))))] M→eT (.ref (48+5*r)) M=.ok (.ref M.next) (M.push (aj h))
 OR:∀M,b7 [(13,dJ 14 15 16 17 s.gV),(14,aj (ah (aA s.av))),(15,aj (ah (aA s.aI))),(16,aj (ah (two s.av))),(17,aj (ah (bu s.av))),(48+5*r,.dict .int (jM (CT (j0 aF (s.ak r)))))] M→aq (aE (n+3) .fE [.ref 13,.ref (48+5*r)] M) (.int jw) M
 won:om (.int jw) (.int 3) []=some w
noncomputable abbrev Ik(l:List (Int×Int))(h:List Int)(aF:Int)(r:Nat):ai:=Aa r (j4 s l r aF)++[aj h,aj h]
theorem abP(h:List Int)(jw aF:Int):∀r,r<13→N7 n s false false s.bh h jw aF r→aq (aE (n+4) .ee [.ref 0,.int aF,.int r] (Aa r s)) (.bool true) (Ik s s.bh h aF r):=by intro r hr g;obtain⟨g1,g2,g3,g4,g5,g6,g7,g8,g9,OS,MO,PU,NB,Pa⟩:=g;exact goF rfl (jj 1 g1<|j8 1 g2<|Rf 1 g5<|j8 4 g6<|jj 2 g7<|qQ 1 g8 g9<|j8 2 OS<|HX 1 MO<|CS 0 PU<|j8 0 (xJ h)<|HX 4 NB<|j8 0 Pa<|zF) (by clear g1 g2 g3 g4 g5 g6 g7 g8 g9 OS MO PU NB Pa;revert r;exact sE (by kernel_rfl))
theorem ab3(h:List Int)(jw aF:Int)(l:List (Int×Int)):∀r,r<13→N7 n s true false l h jw aF r→aq (aE (n+4) .ee [.ref 0,.int aF,.int r] (Aa r s)) (.bool true) (Ik s l h aF r):=by intro r hr g;obtain⟨g1,g2,g3,g4,g5,g6,g7,g8,g9,OS,MO,PU,NB,Pa⟩:=g;replace g4:=g4 rfl;exact goF rfl (jj 1 g1<|j8 1 g2<|ED 3 g3 g4<|Rf 0 g5<|j8 4 g6<|jj 2 g7<|qQ 1 g8 g9<|j8 2 OS<|HX 1 MO<|CS 0 PU<|j8 0 (xJ h)<|HX 4 NB<|j8 0 Pa<|zF) (by clear g1 g2 g3 g4 g5 g6 g7 g8 g9 OS MO PU NB Pa;revert r;exact sE (by kernel_rfl))
structure aeR(l:List (Int×Int))(h:List Int)(aF:Int)(r:Nat):Prop where
 adv:aq (WhS (n+2) (aY .c7 4) [.ref 11,.bytes (eV r),.ref 114,.int 0,.bool false,.af,.af] (Aa r (j4 s l r aF)++[aj h,aj h,.list []])) (.next (CK (j4 s l r aF) (rg r) r (r+1)))
  (z0 (j4 s l r aF) (λj:Nat=>ao s j) (λi=>SA i r||oZ s i) (aj h) (aj h) (r+1))
 que:∀M,b7 [(22,aaF s)] M→iw (.ref 22) (some ((r+1-s.aS:Nat):Int)) none M=.ok (.ref M.next) (M.push (.list ((bC (upTo s (r+1))).map aP)))
 aon:aq (vM (n+3) (aY .ee 8).ex (Qd aF r (.bool true)) (.ref 114) (CJ (j4 s l r aF) (λj:Nat=>ao s j) (λi=>SA i r||oZ s i) (aj h) (aj h) r)) (.ref 116)
  (CJ (j4 s l r aF) (λj:Nat=>ao s j) (λi=>SA i r||oZ s i) (aj h) (aj h) r++[.list (rH s r)])
 due:∀M,b7 [(6,Ge s)] M→iw (.ref 6) (some (s.aS:Int)) (some ((r:Int)+1)) M=.ok (.ref M.next) (M.push (.list (rH s r)))
 yq:aZ ((((rH s r).zip (rH s r)).all λp=>V.bT 8 p.1 p.2)=true) (decide (rH s r=rH s r))=some true
noncomputable abbrev Hx(l:List (Int×Int))(h:List Int)(aF:Int)(r:Nat):ai:=(CJ (j4 s l r aF) (λj:Nat=>ao s j) (λi=>SA i r||oZ s i) (aj h) (aj h) r).set 0 (wO I (upTo s (r+1)))++[.list (rH s r),.list (rH s r)]
theorem adt(h:List Int)(jw aF:Int):∀r,r<13→N7 n s false true s.bh h jw aF r→aeR n s s.bh h aF r→aq (aE (n+4) .ee [.ref 0,.int aF,.int r] (Aa r s)) (.bool true) (Hx s s.bh h aF r):=by intro r hr g f;obtain⟨g1,g2,g3,g4,g5,g6,g7,g8,g9,OS,MO,PU,NB,Pa⟩:=g;obtain⟨f1,f2,f3,f4,f5⟩:=f;exact goF rfl (jj 1 g1<|j8 1 g2<|Rf 1 g5<|j8 4 g6<|jj 2 g7<|qQ 1 g8 g9<|j8 2 OS<|HX 1 MO<|CS 0 PU<|j8 0 (xJ h)<|HX 4 NB<|j8 0 Pa<|j8 8 g6<|P7 2 f1<|CS 1 f2<|chC 0 f3<|CS 3 f4<|j8 2 f5<|zF) (by clear g1 g2 g3 g4 g5 g6 g7 g8 g9 OS MO PU NB Pa f1 f2 f3 f4 f5;revert r;exact sE (by kernel_rfl))
theorem aea(h:List Int)(jw aF:Int)(l:List (Int×Int)):∀r,r<13→N7 n s true true l h jw aF r→aeR n s l h aF r→aq (aE (n+4) .ee [.ref 0,.int aF,.int r] (Aa r s)) (.bool true) (Hx s l h aF r):=by intro r hr g f;obtain⟨g1,g2,g3,g4,g5,g6,g7,g8,g9,OS,MO,PU,NB,Pa⟩:=g;obtain⟨f1,f2,f3,f4,f5⟩:=f;replace g4:=g4 rfl;exact goF rfl (jj 1 g1<|j8 1 g2<|ED 3 g3 g4<|Rf 0 g5<|j8 4 g6<|jj 2 g7<|qQ 1 g8 g9<|j8 2 OS<|HX 1 MO<|CS 0 PU<|j8 0 (xJ h)<|HX 4 NB<|j8 0 Pa<|j8 8 g6<|P7 2 f1<|CS 1 f2<|chC 0 f3<|CS 3 f4<|j8 2 f5<|zF) (by clear g1 g2 g3 g4 g5 g6 g7 g8 g9 OS MO PU NB Pa f1 f2 f3 f4 f5;revert r;exact sE (by kernel_rfl))
end
end
section
theorem pO(l:Nat){i:Nat}(h:i≤l):Ur l (i:Int)=i:=by unfold Ur;rw[aJ (U3.mpr (Tw i)),aqc (UZ.mpr h),Zu (Tw i),Ug]
theorem Mh{l i:Nat}(h:l≤i):Ur l (i:Int)=l:=by unfold Ur;rw[aJ (U3.mpr (Tw i)),Int.min_eq_right (UZ.mpr h),Zu (Tw l),Ug]
theorem LY(l i:Nat):Ur l (Wo i)=l-(i+1):=by
 unfold Ur;rw[aG (Zv i),aqc (TX (Int.add_le_add_right (UQ (Zv i)) _) (aqd (Zw _))),show Wo i+(l:Int)=(l:Int)-((i+1:Nat):Int) from Zx _ _];rcases aqe (i+1) l with h|h
 ·rw[Zu (Int.sub_nonneg_of_le (UZ.mpr h))];exact Int.toNat_sub l (i+1)
 ·rw[Int.max_eq_left (apj (UZ.mpr h)),Nat.sub_eq_zero_of_le h];rfl
noncomputable def gJ(s:St)(r:Nat)(aF:Int):List (Int×Int):=if((r:Int),aF)∈s.bh then s.bh else s.bh++[((r:Int),aF)]
noncomputable def Bq(s:St)(r:Nat)(aF:Int):St:=
 if r<s.aS then{s with bh:=gJ s r aF}
 else if gi (ah (aA s.av)) (ah (aA s.aI)) (pG (aB (j0 aF (s.ak r))))=true then upTo (j4 s (gJ s r aF) r aF) (r+1) else j4 s (gJ s r aF) r aF
def ab9(s:St):Prop:= ∀l:List Int,decide (jv (ah (aA s.av)) (ah (aA s.aI)) (lk (CT l))=3)=gi (ah (aA s.av)) (ah (aA s.aI)) (pG (aB l))
theorem IG{a:Nat}{o:O}{M:ai}(g:b7 [(a,o)] M)(h:o.live=true):M.get a=some o:=by
 have q:[o]=[(M.get a).getD .aM]:=g;cases e:M.get a with
 |none=>rw[e] at q;rw[(Xe q).1] at h;exact gg h
 |some o'=>rw[e] at q;exact bk some (Xe q).1.symm
theorem nY{a:Nat}{l l':List V}{lo hi:Option Int}(h:qN l lo hi=l')(M:ai)(g:b7 [(a,.list l)] M):iw (.ref a) lo hi M=.ok (.ref M.next) (M.push (.list l')):=by show(M.get a).bind _=_;rw[IG g rfl,←h];rfl
theorem aaG(s:St){r:Nat}(h1:s.aS≤r)(h2:r<s.nn):qN ((bC s).map aP) (some ((r+1-s.aS:Nat):Int)) none=(bC (upTo s (r+1))).map aP:=by
 have hl:((bC s).map aP).length=s.nn-s.aS:=by unfold bC;rw[Sy,Wn]
 show((((bC s).map aP).take ((bC s).map aP).length).drop (Ur ((bC s).map aP).length ((r+1-s.aS:Nat):Int)))=_;rw[WU,pO _ (by rw[hl];exact Nat.sub_le_sub_right h2 _),←XU];unfold bC upTo;rw[aqf];show(Uv (s.aS+(r+1-s.aS)*1) (s.nn-s.aS-(r+1-s.aS))).map aP=(Uv (r+1) (s.nn-(r+1))).map aP;rw[aqg,Zy,aqh (Th h1)]
theorem QO(s:St){r:Nat}(h1:s.aS≤r)(h2:r<s.nn):qN ((Sw s.nn).map (yu s)) (some (s.aS:Int)) (some ((r:Int)+1))=rH s r:=by
 have hl:((Sw s.nn).map (yu s)).length=s.nn:=by rw[Sy,Uz]
 show((((Sw s.nn).map (yu s)).take (Ur ((Sw s.nn).map (yu s)).length ((r:Int)+1))).drop (Ur ((Sw s.nn).map (yu s)).length (s.aS:Int)))=_;rw[pO _ (by rw[hl];exact SG h1 (Tv h2)),show(r:Int)+1=((r+1:Nat):Int) from rfl,pO _ (by rw[hl];exact h2),←aqi,←XU,List.take_range,apH h2,apB,aqf];unfold rH;rw[aqg,Uq]
theorem Nh(s:St)(r:Nat):aZ ((((rH s r).zip (rH s r)).all λp=>V.bT 8 p.1 p.2)=true) (decide (rH s r=rH s r))=some true:=
 NC _ λv hv=>by obtain⟨i,_,rfl⟩:=SW.mp hv;rfl
section
variable(n:Nat)(s:St)
theorem Dm(r:Nat)(aF:Int):(gJ s r aF).length≤s.bh.length+1:=by
 unfold gJ
 split
 ·exact TM _
 ·rw[S4];exact SQ _
theorem ab0{r:Nat}(h:s.ak r=bO s.bh r):(s.ak r).length≤s.bh.length:=by rw[h];exact r8 _ _
theorem NV{r:Nat}(h:s.ak r=bO s.bh r)(aF:Int):bO (gJ s r aF) r=j0 aF (s.ak r):=by
 unfold gJ j0;rw[h];by_cases c:((r:Int),aF)∈s.bh
 ·rw[aG c,aG (Ja.mpr c)]
 ·rw[aJ c,aJ λm=>c (Ja.mp m),KY]
theorem ajJ(b w:Bool)(aF:Int){r:Nat}(hn:s.nn≤13)(h1:s.aS≤r)(h2:r<s.nn)(hs:s.bh.length<60)(ha:s.ak r=bO s.bh r)(hb:decide (((r:Int),aF)∈s.bh)= !b)
  (hv:ab9 s) (hw:gi (ah (aA s.av)) (ah (aA s.aI)) (pG (aB (j0 aF (s.ak r))))=w):N7 n s b w (gJ s r aF) (aB (j0 aF (s.ak r))) (jv (ah (aA s.av)) (ah (aA s.aI)) (lk (CT (j0 aF (s.ak r))))) aF r where
 name:=vh (c:=aP) h2 hn
 bh:=(Hs hb).trans (by rw[ZL])
 len:=jP (SM hs (by decide))
 nI:= λe=>by subst e;rw[show gJ s r aF=s.bh++[((r:Int),aF)] from aJ (of_decide_eq_false hb)];exact nI aR s.bh _
 bN:=by have h:=w5 (n+2) {s with bh:=gJ s r aF} r (Sz (Dm s r aF) (by omega));rw[show bO ({s with bh:=gJ s r aF}:St).bh r=j0 aF (s.ak r) from NV s ha aF] at h;exact h
 has:=iB (qy hn h1 h2)
 at_:=qy hn h1 h2
 room:=MP aF (by rw[Sy,Sy];exact Sz (ab0 s ha) (SM hs (by decide)))
 pD:=Ln _ _
 lt:=eZ (aH (by omega))
 ajA:=by have h:=ou (n+1) {s with bh:=gJ s r aF} (aB (j0 aF (s.ak r))) 112 rfl;rw[show gi (ah (aA ({s with bh:=gJ s r aF}:St).av)) (ah (aA ({s with bh:=gJ s r aF}:St).aI)) (pG (aB (j0 aF (s.ak r))))=w from hw] at h;exact h
 keys:=MJ _ (by rw[←NV s ha aF];exact Sz (r8 _ _) (Sz (Dm s r aF) (by omega)))
 OR:=wN n _ _ _ _ _ _ 13 14 15 16 17 (48+5*r) (aeZ (P:= λr=>wk [13,14,15,16,17,48+5*r]=true) rfl rfl rfl rfl rfl rfl rfl rfl rfl rfl rfl rfl rfl r (by omega))
 won:=aT ((hv _).trans hw)
theorem ajH(aF:Int){r:Nat}(hn:s.nn≤13)(h1:s.aS≤r)(h2:r<s.nn):aeR n s (gJ s r aF) (aB (j0 aF (s.ak r))) aF r:=by
 have hP:∀k,s.aS≤k→k≤r→(SA k r||oZ s k)=true:= λk k1 k2=>by unfold oZ;rw[aC k1,aC (Sz k2 h2)];cases SA k r<;>rfl
 exact⟨acZ (n+2) (j4 s (gJ s r aF) r aF) _ _ _ _ r hn h1 h2 hP,nY (aaG s h1 h2),af5 (n+1) (j4 s (gJ s r aF) r aF) aF _ _ _ _ _ r hn h1 h2 hP,nY (QO s h1 h2),Nh s r⟩
noncomputable def alR(r:Nat):List Bool:=(Sw 112).map λa=>S8 a 47||UC (52+5*r) a
theorem acd(l:List (Int×Int))(h:List Int)(aF:Int):∀r,r<13→((slots [(22,115)]).zip (alR r)).map (λp=>cond p.2 (((Hx s l h aF r).get p.1).getD .aM) .aM)=gY (bQ (slots [(22,115)]) (Hx s l h aF r).length) (upTo (j4 s l r aF) (r+1)) (λj:Nat=>ao s j) (λi=>S8 r i&&(SA i r||oZ s i)):=
 sE (by kernel_rfl)
theorem ac9(l:List (Int×Int))(h:List Int)(aF:Int):∀r,r<13→(SA (alR r).length (slots [(22,115)]).length&&(ndM (slots [(22,115)]) (alR r)&&((slots [(22,115)]).all (λa=>S8 a (Hx s l h aF r).length)&&SA (bQ (slots [(22,115)]) (Hx s l h aF r).length 0) 0)))=true:=
 sE (by kernel_rfl)
theorem DX(l:List (Int×Int))(h:List Int)(aF:Int){r:Nat}(hr:r<13)(h1:s.aS≤r):Seen (upTo (j4 s l r aF) (r+1)) (Hx s l h aF r):=
 .of (slots [(22,115)]) (alR r) (λj:Nat=>ao s j) (λi=>S8 r i&&(SA i r||oZ s i)) (acd s l h aF r hr) (ac9 s l h aF r hr) rfl (funext λi=>by
  show(S8 r i&&(SA i r||(decide (i<s.nn)&&decide (s.aS≤i))))=(decide (i<s.nn)&&decide (r+1≤i));by_cases c:r<i
  ·rw[show S8 r i=true from aqj c,aC (show r+1≤i from c),aC (SG h1 (Tv c))]
   cases q:SA i r with
   |false=>rfl
   |true=>exact absurd (T8 q) (Vt c)
  ·rw[aH (show¬r+1≤i from c),V9]
   cases q:S8 r i with
   |false=>rfl
   |true=>exact absurd (TF q) c)
theorem BQ{r:Nat}(h1:s.aS≤r)(h2:r<s.nn):Aa r s=mem s:=bk (gY I s (λj:Nat=>ao s j)) (pY (q:=oZ s) (by unfold oZ;rw[aC h1,aC h2];rfl))
structure yI(r:Nat):Prop where
 nn:s.nn≤13
 lt:r<s.nn
 bh:s.bh.length<60
 ak:s.aS≤r→s.ak r=bO s.bh r
 OR:ab9 s
theorem ab5(aF:Int){r:Nat}(o:yI s r):dM (n+4) .ee [.int aF,.int r] s λs'=>s'=Bq s r aF:=by
 unfold Bq;by_cases h1:r<s.aS
 ·rw[aG h1]
  by_cases c:((r:Int),aF)∈s.bh
  ·rw[show gJ s r aF=s.bh from aG c]
   exact .fin (ad9 (n+1) s r aF c o.nn h1 o.lt o.bh) rfl (.CZ s _)
  ·rw[show gJ s r aF=s.bh++[((r:Int),aF)] from aJ c]
   exact .fin (aci (n+1) s r aF c o.nn h1 o.lt o.bh) rfl (.CZ _ _)
 rw[aJ h1];have h1:=SS h1;have hr:r<13:=SX o.lt o.nn;have e:=BQ s h1 o.lt;have e':=BQ (j4 s (gJ s r aF) r aF) h1 o.lt;have aeG:Seen (j4 s (gJ s r aF) r aF) (Ik s (gJ s r aF) (aB (j0 aF (s.ak r))) aF r):=by unfold Ik;rw[e'];exact .CZ _ _
 have g:∀b w,decide (((r:Int),aF)∈s.bh)= !b→_→_:= λb w hb hw=>ajJ n s b w aF o.nn h1 o.lt o.bh (o.ak h1) hb o.OR hw;have f:=ajH n s aF o.nn h1 o.lt;by_cases c:((r:Int),aF)∈s.bh
 ·have el:gJ s r aF=s.bh:=aG c
  rw[el] at g f aeG⊢;cases hw:gi (ah (aA s.av)) (ah (aA s.aI)) (pG (aB (j0 aF (s.ak r)))) with
  |false=>rw[aJ Tc];exact .fin (e▸abP n s _ _ aF r hr (g false false (aC c) hw)) rfl aeG
  |true=>rw[aG rfl];exact .fin (e▸adt n s _ _ aF r hr (g false true (aC c) hw) f) rfl (DX s _ _ aF hr h1)
 ·cases hw:gi (ah (aA s.av)) (ah (aA s.aI)) (pG (aB (j0 aF (s.ak r)))) with
  |false=>rw[aJ Tc];exact .fin (e▸ab3 n s _ _ aF _ r hr (g true false (aH c) hw)) rfl aeG
  |true=>rw[aG rfl];exact .fin (e▸aea n s _ _ aF _ r hr (g true true (aH c) hw) f) rfl (DX s _ _ aF hr h1)
end
end
section
theorem tF{l:List V}{k:Nat}(h:l.length=k):some (V.int (l.length:Int))=some (.int (k:Int)):=by rw[h]
theorem afG{i j k:Int}(h:i-j=k):(Op.nC .sub i j).map V.int=some (.int k):=bk (λx=>some (V.int x)) h
theorem Ir{a b:List UInt8}(h:a.length+b.length<1000):Op.LF .add a (.bytes b)=some (.bytes (a++b)):=by show aZ (Op.C2 .add=true∧a.length+b.length<ay) (V.bytes (a++b))=_;rw[aZ,aG ⟨rfl,SM h (by decide)⟩]
theorem lt8:8+0<1000:=by decide
theorem ahi:8+8<1000:=by decide
theorem agJ:8<1000:=by decide
theorem F6(k:Nat):(om (aP k) (aP k) []).map (! ·)=some false:=by have c:V.bT 8 (aP k) (aP k)=true:=rfl;show Ua (! ·) (aZ (V.bT 8 (aP k) (aP k)=true) (decide (aP k=aP k)))=_;rw[aZ,aG c,aC rfl];rfl
section
variable(n:Nat)(s:St)
theorem aec(hc:s.bq<256):aq (aE (n+3) .j5 [.ref 0] [.inst .kr [(.mL,.int s.z4),(.gG,.int s.bq),(.gK,.ref 1),(.dZ,.bool s.n6)],.dict .int (oB s.bN)]) (.bytes (mG s.bq)) [.inst .kr [(.mL,.int s.z4),(.gG,.int s.bq),(.gK,.ref 1),(.dZ,.bool s.n6)],.dict .int (oB s.bN)]:=
 gS rfl rfl (kR 1 (I9 n s.bq hc)<|gZ 0)
theorem xA(hc:s.bq<256)(M:ai)(g:b7 [(10,acf I s),(20,.dict .int (oB s.bN))] M):aq (aE (n+3) .j5 [.ref 10] M) (.bytes (mG s.bq)) M:=
 eB (aec n s hc) (Em.of g rfl (ec rfl (ec (w7 _ _) rfl)) rfl)
theorem yl(aF:Int){r:Nat}(o:yI s r):Ce (n+4) .ee [.int aF,.int r] s λs'=>s'=Bq s r aF:=Ce.of (ab5 n s aF o) λ_=>rfl
noncomputable def mD(p:Nat×Int):St:={s with dc:=s.dc++[p]}
theorem NQ(y:Int)(h:y%4=0)(hc:s.bq<256)(hb:s.dc.length<100):aq (aE (n+5) .nG [.ref 0,.int y] (mem s)) (.bool true) (mem (mD s (s.bq,-1))):=
 gF rfl (kV 0 (aQ y 4)<|kB 0 (eZ (i:=0) (j:=y%4) (aH (by omega)))<|kR 7 (xA (n+1) s hc)<|kV 0 (Ir (a:=mG s.bq) (b:=[]) lt8)<|Hi 0 (jP (f:=dN) (SM hb (by decide:100<1048576))) (nI dN s.dc (s.bq,-1))<|kE)
theorem L7(y:Int)(h:0<y%4)(hg:s.nn≤s.aS)(hc:s.bq<256)(hb:s.dc.length<100):aq (aE (n+5) .nG [.ref 0,.int y] (mem s)) (.bool true) (mem (mD s (s.bq,-1))):=
 gF rfl (kV 0 (aQ y 4)<|kB 0 (eZ (i:=0) (j:=y%4) (aC h))<|kV 3 (tF (l:=(Sw s.nn).map aP) (k:=s.nn) (by rw[Sy,Uz]))<|kB 0 (eZ (i:=s.aS) (j:=s.nn) (aH (by omega)))<|kR 6 (xA (n+1) s hc)<|kV 0 (Ir (a:=mG s.bq) (b:=[]) lt8)<|Hi 0 (jP (f:=dN) (SM hb (by decide:100<1048576))) (nI dN s.dc (s.bq,-1))<|kE)
theorem afB(h1:s.aS<s.nn):bC s=Uv s.aS (s.nn-1-s.aS)++[s.nn-1]:=by unfold bC;rw[aa1 h1,←Zy,Nat.sub_right_comm,Zs,Yb,aqh (show s.aS≤s.nn-1 from Nat.le_pred_of_lt h1)]
theorem N1(h1:s.aS<s.nn):bA ((bC s).map aP) (-1)=some (aP (s.nn-1)):=by rw[afB s h1,TA];exact vD _ _
theorem Ob(y:Int)(h:0<y%4)(hg:s.aS<s.nn)(hc:s.bq<256)(hb:s.dc.length<100)(hn:s.nn≤13)(o:yI (mD s (s.bq,((s.nn-1:Nat):Int))) (s.nn-1)):dM (n+5) .nG [.int y] s λs'=>s'=Bq (mD s (s.bq,((s.nn-1:Nat):Int))) (s.nn-1) 1:=by
 obtain⟨f,B⟩:=Seen.rfl (s:=mD s (s.bq,((s.nn-1:Nat):Int))) rfl;have hl:(bC s).map aP≠[]:= λe=>by have:=bk Vx e;unfold bC at this;rw[Sy,Wn] at this;exact absurd this (Nat.sub_ne_zero_of_lt hg)
 exact gQ rfl (kV 0 (aQ y 4)<|kB 0 (eZ (i:=0) (j:=y%4) (aC h))<|kV 3 (tF (l:=(Sw s.nn).map aP) (k:=s.nn) (by rw[Sy,Uz]))<|kB 0 (eZ (i:=s.aS) (j:=s.nn) (aC (TH.mpr hg)))<|kV 2 (tF (l:=(Sw s.nn).map aP) (k:=s.nn) (by rw[Sy,Uz]))<|kV 0 (afG (i:=s.nn) (j:=1) (k:=((s.nn-1:Nat):Int)) (by omega))<|kV 4 (tF (l:=(bC s).map aP) (k:=s.nn-s.aS) (by unfold bC;rw[Sy,Wn]))<|kB 0 (aT (i:=((s.nn-s.aS:Nat):Int)) (j:=0) (aH (by omega)))<|kV 2 (N1 s hg)<|kS 0 (V.bytes (eV (s.nn-1))) (mem s) rfl<|kV 1 (vh (c:=aP) (r:=s.nn-1) (n:=s.nn) (by omega) hn)<|kB 0 (F6 (s.nn-1))<|kR 6 (xA (n+1) s hc)<|kV 0 (Ir (a:=mG s.bq) (b:=eV (s.nn-1)) ahi)<|Hi 0 (jP (f:=dN) (SM hb (by decide:100<1048576))) (nI dN s.dc (s.bq,((s.nn-1:Nat):Int)))<|kQ 2 (yl n _ 1 o 0 f (mem (mD s (s.bq,((s.nn-1:Nat):Int)))) B) (λv' m' hQ=>Ce.fin hQ))
noncomputable def I5(y:Int):St:=if 0<y%4∧s.aS<s.nn then Bq (mD s (s.bq,((s.nn-1:Nat):Int))) (s.nn-1) 1 else mD s (s.bq,-1)
theorem QN(y:Int)(hc:s.bq<256)(hb:s.dc.length<100)(hn:s.nn≤13)(o:s.aS<s.nn→yI (mD s (s.bq,((s.nn-1:Nat):Int))) (s.nn-1)):dM (n+5) .nG [.int y] s λs'=>s'=I5 s y:=by
 unfold I5;by_cases h:0<y%4
 ·by_cases hg:s.aS<s.nn
  ·rw[aG ⟨h,hg⟩];exact Ob n s y h hg hc hb hn (o hg)
  ·rw[aJ λc=>hg c.2];exact .fin (L7 n s y h (SS hg) hc hb) rfl (.rfl rfl)
 ·rw[aJ λc=>h c.1];exact .fin (NQ n s y (by omega) hc hb) rfl (.rfl rfl)
end
end
section
section
variable(n:Nat)(s:St)
noncomputable def sN(k:Nat):St:={s with nn:=k}
noncomputable def Ny(fr:Int)(a:Nat):O:= .inst .oE [(.qa,.int 15),(.RC,.int 1),(.Ic,.int fr),(.pV,.int 0),(.oi,.int 0),(.ir,.int 0),(.jD,.ref a),(.sL,.int 0),(.oJ,.none),(.sU,.bool false),(.jH,.int 0),(.jt,.bytes [])]
noncomputable def adl(b:List UInt8):O:= .inst .A9 [(.pV,.int 0),(.ir,.int 0),(.qa,.int 0),(.xN,.bytes b)]
theorem Si(fr:Int)(M:ai):aq (aE (n+1) .oM [.ref M.next,.int 15,.int 1,.int fr,.int 0] (M.push (.inst .oE []))) .none (M++[Ny fr (M.length+1),.list []]):=
 jZ (o:=Ny fr 1) (ex:=[.list []]) (goF rfl zF (by kernel_rfl)) (λ_=>rfl) M
theorem aal(b:List UInt8)(M:ai):aq (aE (n+1) .rI [.ref M.next,.int 0,.int 0,.int 0,.bytes b] (M.push (.inst .A9 []))) .none (M++[adl b]):=
 jZ (o:=adl b) (ex:=[]) (goF rfl zF (by kernel_rfl)) (λ_=>rfl) M
noncomputable def iM(k:Nat)(y:Int):St:={s with nn:=k+1,ix:= λi=>if i=k then s.c9-y/4%3 else s.ix i,fr:= λi=>if i=k then 2+y%4 else s.fr i,ak:= λi=>if i=k then[] else s.ak i,dc:=s.dc++[(s.bq,(k:Int))]}
noncomputable def qE(k:Nat):List Nat:=slots [(47+5*k,116),(48+5*k,117),(49+5*k,112),(50+5*k,113),(51+5*k,115)]
noncomputable abbrev pR(k:Nat)(i:Nat):Bool:=SA i k||oZ (sN s k) i
noncomputable def AO(k:Nat)(y:Int):ai:=(((((gY (bQ (qE k) 118) (iM s k y) (λj:Nat=>ao s j) (pR s k)).set (47+5*k) .aM).set (48+5*k) .aM).set (49+5*k) .aM).set (50+5*k) .aM).set (51+5*k) .aM++
 [ki (iM s k y) k 113,.list [.ref 115],.list [.int k],j7 k,Gz (iM s k y) k 112 117,se (iM s k y) k]
theorem Rh(y:Int):∀k,k<13→((qE k).zip Kq).map (λp=>cond p.2 (((AO s k y).get p.1).getD .aM) .aM)=gY (bQ (qE k) (AO s k y).length) (iM s k y) (λj:Nat=>ao s j) (pR s k):=
 sE (by kernel_rfl)
theorem Ow(y:Int):∀k,k<13→(SA Kq.length (qE k).length&&(ndM (qE k) Kq&&((qE k).all (λa=>S8 a (AO s k y).length)&&SA (bQ (qE k) (AO s k y).length 0) 0)))=true:=
 sE (by kernel_rfl)
theorem Ky(y:Int){k:Nat}(hk:k<13)(h1:s.aS≤k):Seen (iM s k y) (AO s k y):=
 .of (qE k) Kq (λj:Nat=>ao s j) (pR s k) (Rh s y k hk) (Ow s y k hk) rfl (funext λi=>by
  show(SA i k||(decide (i<k)&&decide (s.aS≤i)))=(decide (i<k+1)&&decide (s.aS≤i));cases q:SA i k with
  |true=>rw[T8 q,aC h1,aC (T3 k)];rfl
  |false=>
   have ne:i≠k:= λe=>by rw[e,Vz] at q;exact gg q.symm
   rw[show decide (i<k+1)=decide (i<k) from decide_eq_decide.mpr ⟨λh=>Wl (VB h) ne,Wf⟩];rfl)
theorem Nu(y:Int)(Q:V→ai→Prop)(hc:s.bq<256)(hb:s.dc.length<100):∀k,k<13→(kindOf (aP k)=some .bytes∧(o6 (sN s k)).length<ay)→bR (aP k) (.ref 116) (o6 (sN s k))=(bC (iM s k y)).map (λr=>(aP r,.ref (Am (bQ (qE k) 118 47) [bQ (qE k) 118 52,bQ (qE k) 118 57,bQ (qE k) 118 62,bQ (qE k) 118 67,bQ (qE k) 118 72,bQ (qE k) 118 77,bQ (qE k) 118 82,bQ (qE k) 118 87,bQ (qE k) 118 92,bQ (qE k) 118 97,bQ (qE k) 118 102,bQ (qE k) 118 107] r)))→
  ((bC (sN s k)).map aP).length<ay→(bC (sN s k)).map aP++[aP k]=(bC (iM s k y)).map aP→(∀M,b7 [] M→aq (aE (n+3) .jW [.int ((k+1:Nat):Int)] M) (aP k) M)→s.dc.map dN++[dN (s.bq,(k:Int))]=(s.dc++[(s.bq,(k:Int))]).map dN→Op.LF .add (mG s.bq) (aP k)=some (.bytes (mG s.bq++eV k))→
  (∀M,b7 [(112,ki (iM s k y) k 113),(113,.list [.ref 115]),(115,j7 k)] M→aq (aE (n+4) .gu [.ref 112] M) (OP k ((iM s k y).fr k)) M)→aE (n+4) .ee [.ref 0,.int 1,.int k] (AO s k y) Q fy→
  aq (aE (n+4) .oM [.ref 112,.int 15,.int 1,.int (2+y%4),.int 0] (mem (sN s k)++[.inst .oE []])) .none (mem (sN s k)++[Ny (2+y%4) 113,.list []])→
  aq (aE (n+4) .rI [.ref 115,.int 0,.int 0,.int 0,.bytes [TS k]] (mem (sN s k)++[Ny (2+y%4) 113,.list [],.list [.int k]]++[.inst .A9 []])) .none (mem (sN s k)++[Ny (2+y%4) 113,.list [],.list [.int k]]++[adl [TS k]])→aE (n+5) .gk [.ref 0,.int y] (mem (sN s k)) Q fy:=by
 intro k hk g1 g2 g3 g4 g5 g6 g7 g8 g9 gA gB;exact goD rfl (jj 2 (aQ y 4)<|chC 1 gA<|chC 4 gB<|jj 2 (bw y 4)<|jj 0 (aQ (y/4) 3)<|HX 7 g5<|qQ 2 g1 g2<|ED 2 g3 g4<|HX 11 g8<|HX 6 (xA (n+1) s hc)<|jj 0 g7<|ED 0 (jP (f:=dN) (SM hb (by decide:100<1048576))) g6<|chQ 0 g9 λv' m' hQ=>chD hQ) (by clear g1 g2 g3 g4 g5 g6 g7 g8 g9 gA gB;revert k;exact sE (by kernel_rfl))
noncomputable abbrev adR(k r:Nat):Nat:=Am (bQ (qE k) 118 47) [bQ (qE k) 118 52,bQ (qE k) 118 57,bQ (qE k) 118 62,bQ (qE k) 118 67,bQ (qE k) 118 72,bQ (qE k) 118 77,bQ (qE k) 118 82,bQ (qE k) 118 87,bQ (qE k) 118 92,bQ (qE k) 118 97,bQ (qE k) 118 102,bQ (qE k) 118 107] r
theorem Jm:∀k,k<13→∀r,r<13→adR k r=if r=k then 116 else tbR r:=by decide+kernel
theorem AM{k:Nat}(y:Int)(h:s.aS≤k):bC (iM s k y)=bC (sN s k)++[k]:=by show Uv s.aS (k+1-s.aS)=Uv s.aS (k-s.aS)++[k];rw[Zr h,Zs,Yb,UJ h]
theorem PL{k:Nat}(y:Int)(hk:k<13)(h:s.aS≤k):bR (aP k) (.ref 116) (o6 (sN s k))=(bC (iM s k y)).map λr=>(aP r,.ref (adR k r)):=by
 have lt:∀r∈bC (sN s k),r<k:= λr hr=>(i8.mp hr).2;rw[nH,AM s y h,TA]
 ·congr 1
  ·exact Tg λr hr=>by rw[Jm k hk r (SM (lt r hr) hk),aJ (T9 (lt r hr))]
  ·show[(aP k,V.ref 116)]=[(aP k,V.ref (adR k k))]
   rw[Jm k hk k hk,aG rfl]
 ·exact(uE (SM hk (by decide)) λr hr=>SM (lt r hr) (SM hk (by decide))).trans (aJ λm=>V5 _ (lt k m))
theorem uV(s:St):(bC s).length≤s.nn:=by unfold bC;rw[Wn];exact V8 ..
noncomputable def abD(y:Int):St:=Bq (iM s s.nn y) s.nn 1
theorem aaE(y:Int)(hc:s.bq<256)(hb:s.dc.length<100)(hn:s.nn<13)(hg:s.aS≤s.nn)(o:yI (iM s s.nn y) s.nn):dM (n+5) .gk [.int y] s λs'=>s'=abD s y:=by
 obtain⟨f,B⟩:=Ky s y hn hg;have len:∀l:List Nat,l.length≤s.nn→l.length<1048576:= λl h=>Sz h (SM hn (by decide));exact(Nu n s y _ hc hb s.nn hn ⟨rfl,jP (len _ (uV (sN s s.nn)))⟩ (PL s y hn hg) (jP (len _ (uV (sN s s.nn)))) (by rw[AM s y hg];exact nI aP _ _) (I9 (n+1) _ (by omega)) (nI dN _ _) (Ir ahi) (abw (n+2) _ _ _ _ _ rfl)
  (yl n _ 1 o 0 f _ B) (Si (n+3) _ _) (aal (n+3) _ _)).bg (λv m q=>Ce.fin q) λ_ z=>z.elim
end
end
section
noncomputable def BR:List Int:=[2,3,4,5,2,3,6]
noncomputable def vO(y:Int):Int:=BR.getD (y%7).toNat 0
theorem agF(y:Int):bA (vi BR) (y%7)=some (.int (vO y)):=by
 have h:∀i:Nat,i<7→bA (vi BR) (i:Int)=some (.int (BR.getD i 0)):=by decide+kernel
 have e:y%7=((y%7).toNat:Int):=by omega
 have q:=h (y%7).toNat (by omega);rw[←e] at q;exact q
noncomputable def cY(s:St):List (Nat×Int):=s.dc.drop (s.dc.length-8)
theorem tR(s:St):qN (s.dc.map dN) (some (-8)) none=(cY s).map dN:=by show(((s.dc.map dN).take (s.dc.map dN).length).drop (Ur (s.dc.map dN).length (Wo 7)))=_;rw[WU,LY,Sy,←XU];rfl
noncomputable def gw(s:St)(y:Int):Nat×Int:=(cY s).getD ((cY s).length-1-(y/7%((cY s).length:Int)).toNat) (0,-1)
theorem uG{s:St}(h:s.dc≠[]):0<(cY s).length:=by unfold cY;rw[Vu];exact Nat.sub_pos_of_lt (Wk (Vy.mpr h) (by decide))
theorem pk1{L n:Nat}(h:n<L):Wo n+(L:Int)=((L-1-n:Nat):Int):=by rw[aqk,Zx,←Int.sub_eq_add_neg,Zy,Vv 1 n];exact(ap5 h).symm
theorem pk2(n:Nat): -1-(n:Int)=Wo n:=by rw[aqk,Int.neg_add,Zx];rfl
theorem abI{s:St}(h:s.dc≠[])(hb:s.dc.length<100)(y:Int):bA ((cY s).map dN) (-1-y/7%((cY s).length:Int))=some (dN (gw s y)):=by
 have hp:=uG h;have hl:(cY s).length≤s.dc.length:=by unfold cY;rw[Vu];exact V8 ..
 obtain⟨t,e⟩:=WH (Yc (y/7) (Wq (Xh.mpr hp)));have t1:t<(cY s).length:=TH.mp (e▸Yd _ (Xh.mpr hp));have b5:(cY s).length-1-t<(cY s).length:=Sz (V8 ..) (Wk hp (by decide));have b1:¬ay≤(Wo t).natAbs:=Wg.mpr (Sz t1 (Sz hl (SM hb (by decide))));unfold bA gw;rw[e,pk2,Sy,aJ b1,aJ (Xy.mpr (Zv t)),pk1 t1,aG (Tw _),Ug,Ug,Tz,U7,S6 b5];rfl
theorem OL{s:St}(h:s.dc≠[])(y:Int):gw s y∈s.dc:=by have b5:(cY s).length-1-(y/7%((cY s).length:Int)).toNat<(cY s).length:=Sz (V8 ..) (Wk (uG h) (by decide));unfold gw;rw[U7,S6 b5];exact apI (Vf b5)
noncomputable def E3(j t:Int):List (Int×Int)→List (Int×Int)
 |[]=>[(j,t)]
 |p::l=>if p.1=j then(p.1,t)::l else p::E3 j t l
theorem JO(j t:Int)(l:List (Int×Int)):bR (.int j) (.int t) (oB l)=oB (E3 j t l):=by
 induction l with
 |nil=>rfl
 |cons p l ih=>
  show(if V.int p.1=.int j then(V.int p.1,V.int t)::oB l else(V.int p.1,V.int p.2)::bR _ _ (oB l))=_;unfold E3;by_cases c:p.1=j
  ·rw[aG c,aG (bk V.int c)];rfl
  ·rw[aJ c,aJ λe=>c (V.int.inj e),ih];rfl
noncomputable def mU(s:St)(aF:Int):Int:=(lk s.bN aF).getD (-1)
theorem Oj(s:St)(aF:Int):some ((look (.int aF) (oB s.bN)).getD (.int (-1)))=some (.int (mU s aF)):=by rw[yi (vs:=s.bN) rfl];unfold mU lk;cases UB aF s.bN<;>rfl
noncomputable def zz(s:St)(aF:Int)(c:Nat):St:={s with bN:=if mU s aF<(c:Int) then E3 aF c s.bN else s.bN}
theorem O2{c:Nat}{rest:List UInt8}(hr:rest.length<1000)(M:ai)(g:b7 [] M):iw (.bytes (mG c++rest)) (some 8) none M=.ok (.bytes rest) M:=by
 have hl:(mG c++rest).length=8+rest.length:=S4;have e:qN (mG c++rest) (some 8) none=rest:=by show((mG c++rest).take (mG c++rest).length).drop (Ur (mG c++rest).length ((8:Nat):Int))=rest;rw[WU,pO _ (by omega)];exact List.drop_left (l₁:=mG c)
 show aZ ((mG c++rest).length<ay) (V.bytes (qN (mG c++rest) (some 8) none),M)=_;rw[aZ,aG (by rw[hl];unfold ay;omega),e];rfl
section
variable(n:Nat)(s:St)
theorem BH(K P:Nat→Bool)(ex:ai)(aF:Int)(c:Nat)(rest:List UInt8)(hr:rest.length<1000)(hc:c≤s.bq)(hk:s.bq<256)(hh:s.bN.length<100):aq (aE (n+3) .lG [.ref 10,.int aF,.bytes (mG c++rest)] (gY I s K P++ex)) (.bytes rest) (gY I (zz s aF c) K P++ex):=by
 have c1:=Sz hc hk;unfold zz;by_cases h:mU s aF<(c:Int)
 ·rw[aG h]
  exact gF rfl (kV 0 (yr c hr)<|kR 2 (Dt n c rest c1 hr)<|kB 1 (Dl (i:=c) (j:=s.bq) (aC (UZ.mpr hc)))<|kV 3 (Oj s aF)<|kB 0 (eZ (aC h))<|QI 2 (MP aF (jP (f:= λp:Int×Int=>(V.int p.1,V.int p.2)) (SM hh (by decide:100<1048576)))) (JO aF c s.bN)<|kMr 0 (O2 (c:=c) hr)<|kE)
 ·rw[aJ h]
  exact gF rfl (kV 0 (yr c hr)<|kR 2 (Dt n c rest c1 hr)<|kB 1 (Dl (i:=c) (j:=s.bq) (aC (UZ.mpr hc)))<|kV 3 (Oj s aF)<|kB 0 (eZ (aH h))<|kMr 1 (O2 (c:=c) hr)<|kE)
end
end
section
section
variable(n:Nat)(s:St)
theorem B0(a:Int){k:Nat}(h:0<k):(Op.nC .qA a (k:Int)).map V.int=some (.int (a%(k:Int))):=aQ a k (Xh.mpr h)
noncomputable def uM(aF:Int)(c:Nat):St:={zz s aF c with dU:=s.dU++[(aF,(c:Int))]}
noncomputable def qS(aF:Int)(c:Nat):St:=if aF∈ah (ao s) then oH (uM s aF c) aF {s.kn aF with ac:=true} else uM s aF c
noncomputable abbrev MU:ai:=[aj BR,.list ((cY s).map dN)]
theorem adq(y aF:Int)(c:Nat)(hw:bA (vi BR) (y%7)=some (.int aF))(hp:bA ((cY s).map dN) (-1-y/7%((cY s).length:Int))=some (dN (c,-1)))(hl:0<(cY s).length)(hc:c≤s.bq)(hk:s.bq<256)(hh:s.bN.length<100)(ht:s.dU.length<100)(hm:aF∉ah (ao s)):
  aq (aE (n+5) .dG [.ref 0,.int y] (mem s)) (.bool true) (mem (uM s aF c)++MU s):=
 gF rfl (kV 1 (aQ y 7)<|kV 0 hw<|kM 1 (nY (a:=7) (tR s))<|kV 0 (bw y 7)<|kV 0 (tF (l:=(cY s).map dN) (k:=(cY s).length) (Sy ..))<|kV 0 (B0 (y/7) hl)<|kV 1 hp<|kC 4 (BH (n+1) s (λj:Nat=>ao s j) (oZ s) (MU s) aF c [] (by decide) hc hk hh)<|Hi 4 (jP (f:=aR) (SM ht (by decide:100<1048576))) (nI aR s.dU (aF,(c:Int)))<|kB 1 (j3 (yQ hm))<|kE)
theorem acy(y:Int)(c:Nat)(hp:bA ((cY s).map dN) (-1-y/7%((cY s).length:Int))=some (dN (c,-1)))(hl:0<(cY s).length)(hc:c≤s.bq)(hk:s.bq<256)(hh:s.bN.length<100)(ht:s.dU.length<100):∀x:Int,x∈U6→bA (vi BR) (y%7)=some (.int x)→x∈ah (ao s)→
  aq (aE (n+4) .lG [.ref 10,.int x,.bytes (mG c++[])] (iY x.toNat s++MU s)) (.bytes []) (iY x.toNat (zz s x c)++MU s)→s.dU.map aR++[aR (x,(c:Int))]=(s.dU++[(x,(c:Int))]).map aR→
  aq (aE (n+5) .dG [.ref 0,.int y] (iY x.toNat s)) (.bool true) (iY x.toNat (oH (uM s x c) x {s.kn x with ac:=true})++MU s):=by
 intro x hx hw hm hr hs;exact goF rfl (jj 1 (aQ y 7)<|jj 0 hw<|CS 1 (nY (a:=7) (tR s))<|jj 0 (bw y 7)<|jj 0 (tF (l:=(cY s).map dN) (k:=(cY s).length) (Sy ..))<|jj 0 (B0 (y/7) hl)<|jj 1 hp<|chC 4 hr<|ED 4 (jP (f:=aR) (SM ht (by decide:100<1048576))) hs<|j8 1 (j3 (eY hm))<|jj 3 (ny hm)<|jj 1 (eY hm)<|zF) (by clear hw hm hr hs;revert x;exact C6 (by kernel_rfl))
theorem aer(y aF:Int)(c k:Nat)(Q:V→ai→Prop)(hw:bA (vi BR) (y%7)=some (.int aF))(hp:bA ((cY s).map dN) (-1-y/7%((cY s).length:Int))=some (dN (c,(k:Int))))(hl:0<(cY s).length)(hc:c≤s.bq)(hk:s.bq<256)(hh:s.bN.length<100)(ht:s.dU.length<100)(hm:aF∉ah (ao s))(hn:s.nn≤13)(h2:k<s.nn)
  (ha:aE (n+4) .ee [.ref 0,.int aF,.int k] (mem (uM s aF c)++MU s) Q fy):aE (n+5) .dG [.ref 0,.int y] (mem s) Q fy:=
 gQ rfl (kV 1 (aQ y 7)<|kV 0 hw<|kM 1 (nY (a:=7) (tR s))<|kV 0 (bw y 7)<|kV 0 (tF (l:=(cY s).map dN) (k:=(cY s).length) (Sy ..))<|kV 0 (B0 (y/7) hl)<|kV 1 hp<|kV 3 (vh (c:=aP) (r:=k) (n:=s.nn) h2 hn)<|kC 2 (BH (n+1) s (λj:Nat=>ao s j) (oZ s) (MU s) aF c (eV k) agJ hc hk hh)<|kB 0 (F6 k)<|Hi 3 (jP (f:=aR) (SM ht (by decide:100<1048576))) (nI aR s.dU (aF,(c:Int)))<|kB 1 (j3 (yQ hm))<|kQ 3 ha (λv' m' hQ=>hQ))
theorem acz(y:Int)(c k:Nat)(Q:V→ai→Prop)(hp:bA ((cY s).map dN) (-1-y/7%((cY s).length:Int))=some (dN (c,(k:Int))))(hl:0<(cY s).length)(hc:c≤s.bq)(hk:s.bq<256)(hh:s.bN.length<100)(ht:s.dU.length<100)(hn:s.nn≤13)(h2:k<s.nn):∀x:Int,x∈U6→bA (vi BR) (y%7)=some (.int x)→x∈ah (ao s)→
  aq (aE (n+4) .lG [.ref 10,.int x,.bytes (mG c++eV k)] (iY x.toNat s++MU s)) (aP k) (iY x.toNat (zz s x c)++MU s)→s.dU.map aR++[aR (x,(c:Int))]=(s.dU++[(x,(c:Int))]).map aR→
  aE (n+4) .ee [.ref 0,.int x,.int k] (iY x.toNat (oH (uM s x c) x {s.kn x with ac:=true})++MU s) Q fy→aE (n+5) .dG [.ref 0,.int y] (iY x.toNat s) Q fy:=by
 intro x hx hw hm hr hs ha;exact goD rfl (jj 1 (aQ y 7)<|jj 0 hw<|CS 1 (nY (a:=7) (tR s))<|jj 0 (bw y 7)<|jj 0 (tF (l:=(cY s).map dN) (k:=(cY s).length) (Sy ..))<|jj 0 (B0 (y/7) hl)<|jj 1 hp<|jj 3 (vh (c:=aP) (r:=k) (n:=s.nn) h2 hn)<|chC 2 hr<|j8 0 (F6 k)<|ED 3 (jP (f:=aR) (SM ht (by decide:100<1048576))) hs<|j8 1 (j3 (eY hm))<|jj 3 (ny hm)<|jj 1 (eY hm)<|chQ 3 ha λv' m' hQ=>chD hQ) (by clear hw hm hr hs ha;revert x;exact C6 (by kernel_rfl))
noncomputable def w4(y:Int):St:=if(gw s y).2<0 then qS s (vO y) (gw s y).1 else Bq (qS s (vO y) (gw s y).1) (gw s y).2.toNat (vO y)
theorem K9(y:Int)(h0:s.dc≠[])(hb:s.dc.length<100)(hk:s.bq<256)(hh:s.bN.length<100)(ht:s.dU.length<100)(hc:(gw s y).1≤s.bq)(hr: -1≤(gw s y).2∧(gw s y).2<s.nn)(hn:s.nn≤13)(o:0≤(gw s y).2→yI (qS s (vO y) (gw s y).1) (gw s y).2.toNat):
  dM (n+5) .dG [.int y] s λs'=>s'=w4 s y:=by
 have hw:=agF y;have hp:=abI h0 hb y;have hl:=uG h0;unfold w4;generalize vO y=aF at*;generalize gw s y=p at*;obtain⟨c,r⟩:=p;by_cases h:r<0
 ·have e:r= -1:=by have:=hr.1;dsimp only at this;omega
  subst e;rw[aG h];unfold qS;by_cases hm:aF∈ah (ao s)
  ·rw[aG hm]
   have q:=acy n s y c hp hl hc hk hh ht aF (dw hm) hw hm (BH (n+1) s _ _ _ aF c [] (by decide) hc hk hh) (nI aR _ _);rw[eU hm,eU (s:=oH (uM s aF c) aF _) hm] at q;exact .fin q rfl (.CZ _ _)
  ·rw[aJ hm]
   exact .fin (adq n s y aF c hw hp hl hc hk hh ht hm) rfl (.CZ _ _)
 ·rw[aJ h]
  have h:=U3.mp h;obtain⟨k,rfl⟩:=WH h;have o:=o h;obtain⟨f,B⟩:=Seen.CZ (qS s aF c) (MU s);have a:=(yl n _ aF o 0 f _ B).bg (λv m q=>Ce.fin q) λ_ z=>z;have h2:k<s.nn:=TH.mp hr.2;by_cases hm:aF∈ah (ao s)
  ·have e:qS s aF c=oH (uM s aF c) aF {s.kn aF with ac:=true}:=aG hm
   have q:= λQ=>acz n s y c k Q hp hl hc hk hh ht hn h2 aF (dw hm) hw hm (BH (n+1) s _ _ _ aF c (eV k) agJ hc hk hh) (nI aR _ _);rw[eU hm,eU (s:=oH (uM s aF c) aF _) hm,←e] at q;exact q _ a
  ·have e:qS s aF c=uM s aF c:=aJ hm
   have q:=aer n s y aF c k;rw[←e] at q;exact q _ hw hp hl hc hk hh ht hm hn h2 a
end
end
section
theorem aex(s:St)(K P:Nat→Bool)(N:Nat):(gY I s K P).map (O.bM (bQ (Sw 113) N))=gY I s K P:=(nV I _ s K P).trans (by kernel_rfl)
theorem JI{α:Type}{c:α→V}(h:∀a,(c a).pure=true)(l:List α):V.jm (l.map c)=true:=by
 induction l with
 |nil=>rfl
 |cons a l ih=>exact Sn.mpr ⟨h a,ih⟩
section
variable(n:Nat)(s:St)
theorem rc0(k:Nat):aq (aE (n+1) .kN [.ref 0] [ki s k 1,.list [.ref 2],j7 k]) (.bytes [TS k]) [ki s k 1,.list [.ref 2],j7 k]:=
 gS rfl rfl (gZ 7)
theorem akO(k a b c:Nat)(hn:wk [a,b,c]=true)(M:ai)(g:b7 [(a,ki s k b),(b,.list [.ref c]),(c,j7 k)] M):aq (aE (n+1) .kN [.ref a] M) (.bytes [TS k]) M:=
 eB (rc0 n s k) (Em.of g hn (ec rfl (ec rfl (ec rfl rfl))) rfl)
noncomputable def EJ(r:Nat):V:= .bJ [aP r,.int (s.ix r),.bytes [TS r],.bJ (vi (aB (s.ak r)))]
theorem Di(r:Nat):(EJ s r).pure=true:=by show(true&&(true&&(true&&(V.jm (vi (aB (s.ak r)))&&true))))=true;rw[eO];rfl
noncomputable abbrev J4:List V:=[.ref 11,.ref 112,.af,.af]
theorem MB(a:List Nat)(bD:List V):∀r,r<13→look (aP r) (o6 s)=some (.ref (tbR r))→(∀M,b7 [(49+5*r,ki s r (50+5*r)),(50+5*r,.list [.ref (51+5*r)]),(51+5*r,j7 r)] M→aq (aE (n+1) .kN [.ref (49+5*r)] M) (.bytes [TS r]) M)→
  (∀M,b7 [(48+5*r,.dict .int (jM (CT (s.ak r))))] M→eT (.ref (48+5*r)) M=.ok (.ref M.next) (M.push (aj (aB (s.ak r)))))→(a.map (EJ s)).length<ay→a.map (EJ s)++[EJ s r]=(a++[r]).map (EJ s)→aO (.ref 22) (Aa r s++[.list ((a++[r]).map (EJ s)),aj (aB (s.ak r))])=some bD→
  i9 (n+1) (.aA 2) (aY .fH 1).body [2,3] (.ref 22) bD (aP r) J4 (Aa r s++[.list (a.map (EJ s))]) J4 (Aa r s++[.list ((a++[r]).map (EJ s)),aj (aB (s.ak r))]):=by
 intro r hr g1 g2 g3 g4 g5 g6;exact JN (λ_=>jj 1 g1<|HX 3 g2<|CS 1 g3<|ED 1 g4 g5<|chG 0 g6<|zF) (by clear g1 g2 g3 g4 g5 g6;revert r;exact O7 (by kernel_rfl))
theorem aba(l:List V)(hl:∀f,V.fW f l=l)(N:Nat):(mem s++[O.list l]).map (O.bM (bQ (Sw 113) N))=mem s++[O.list l]:=nZ _ (aex s _ _ N) (ec (bk O.list (hl _)) rfl)
theorem Ek{a xs:List Nat}{r:Nat}(h:a++r::xs=bC s):s.aS≤r∧r<s.nn∧a.length<s.nn+1:=by have m:r∈bC s:=h▸Vm _ SI;have l:=bk Vx h;rw[S4] at l;exact⟨(i8.mp m).1,(i8.mp m).2,aqb (SG (SG (SV _ _) (Te l)) (uV s))⟩
theorem aaf(hn:s.nn≤13)(ha:∀r,(s.ak r).length<64):aq (zC (n+1) (aY .fH 1) J4 (.ref 22) (mem s++[.list []])) (.next J4) (mem s++[.list ((bC s).map (EJ s))]):=by
 have h:=rO.A6 (n:=n+1) (t:= .aA 2) (v:= .ref 22) (body:=(aY .fH 1).body) (bf:=[2,3]) (c:=aP) (l:=bC s) (a:=([]:List Nat)) (k:=113) (E:= λ_=>J4) (M:= λa:List Nat=>mem s++[.list (a.map (EJ s))]) (step:= λa r=>a++[r]) (I:= λa xs=>a++xs=bC s) rfl rfl (λ_=>rfl)
  (λa r xs hI=>by
   obtain⟨h1,h2,h3⟩:=Ek s hI;have hr:r<13:=SX h2 hn;refine⟨by rw[Ud];exact hI,J4,_,?_,Nx.cut (m:=mem s++[.list ((a++[r]).map (EJ s))]) (ex:=[aj (aB (s.ak r))]) 113 rfl (λN=>aba s ((a++[r]).map (EJ s)) (λf=>pL f (λr=>V.nT f _ (Di s r)) _) N) (λ_=>rfl) (λ_=>rfl) rfl⟩
   ·have t:=MB n s a ((bC s).map aP) r hr (qy hn h1 h2) (akO n s r _ _ _ (aeZ (P:= λr=>wk [49+5*r,50+5*r,51+5*r]=true) rfl rfl rfl rfl rfl rfl rfl rfl rfl rfl rfl rfl rfl r hr)) (MJ _ (ha r)) (jP (SX h3 (SG (TZ hn) (by decide)))) (nI (EJ s) a r) rfl
    rw[BQ s h1 h2] at t;rw[Ud];exact t) rfl
 rw[sY] at h;exact h
noncomputable def CD:V:= .bJ [.int 1,.int s.nn,.bJ ((bC s).map (EJ s))]
theorem vE:(CD s).pure=true:=by show(true&&(true&&(V.jm ((bC s).map (EJ s))&&true)))=true;rw[JI (Di s)];rfl
theorem aho(hn:s.nn≤13)(ha:∀r,(s.ak r).length<64):aq (aE (n+2) .fH [.ref 11] (mem s)) (CD s) (mem s):=
 gS rfl (vE s) (kF 2 (aaf n s hn ha)<|gZ 3)
end
end
section
noncomputable def ji{β:Type}(j:Int)(b:β):List (Int×β)→List (Int×β)
 |[]=>[(j,b)]
 |p::l=>if p.1=j then(p.1,b)::l else p::ji j b l
theorem AL{β:Type}(c:β→V)(j:Int)(b:β)(l:List (Int×β)):bR (.int j) (c b) (l.map λp=>(.int p.1,c p.2))=(ji j b l).map λp=>(.int p.1,c p.2):=by
 induction l with
 |nil=>rfl
 |cons p l ih=>
  show(if V.int p.1=.int j then(V.int p.1,c b)::(l.map λp=>(.int p.1,c p.2)) else(V.int p.1,c p.2)::bR _ _ (l.map λp=>(.int p.1,c p.2)))=_;unfold ji;by_cases c:p.1=j
  ·rw[aG c,aG (bk V.int c)];rfl
  ·rw[aJ c,aJ λe=>c (V.int.inj e),ih];rfl
theorem rV(j:Int)(b:Bool)(l:List (Int×Bool)):bR (.int j) (.bool b) (jM l)=jM (ji j b l):=AL V.bool j b l
theorem Gg(j:Int)(b:Int)(l:List (Int×Int)):bR (.int j) (.int b) (oB l)=oB (ji j b l):=AL V.int j b l
theorem pN{β:Type}(j:Int)(b:β)(l:List (Int×β)):(ji j b l).length≤l.length+1:=by
 induction l with
 |nil=>exact SQ _
 |cons p l ih=>
  unfold ji
  split
  ·exact TM _
  ·exact TZ ih
theorem sS{β:Type}(j:Int)(b:β)(l:List (Int×β))(i:Int):lk (ji j b l) i=if i=j then some b else lk l i:=by
 induction l with
 |nil=>
  unfold ji lk;rw[Tj];by_cases c:i=j
  ·rw[beq_iff_eq.mpr c,aG c]
  ·rw[beq_eq_false_iff_ne.mpr c,aJ c]
 |cons p l ih=>
  unfold lk at ih⊢;unfold ji;by_cases c:p.1=j
  ·rw[aG c,Tj,Tj]
   by_cases d:i=j
   ·rw[beq_iff_eq.mpr (d.trans c.symm),aG d]
   ·rw[beq_eq_false_iff_ne.mpr λe=>d (e.trans c),aJ d]
  ·rw[aJ c,Tj,Tj,ih]
   by_cases d:i=p.1
   ·rw[beq_iff_eq.mpr d];exact(aJ λe=>c (d.symm.trans e)).symm
   ·rw[beq_eq_false_iff_ne.mpr d]
theorem Jr(a:Nat){l:List (Int×Int)}(hl:l.length<64)(M:ai)(g:b7 [(a,.dict .int (oB l))] M):eT (.ref a) M=.ok (.ref M.next) (M.push (aj (aB (l.map (·.1))))):=by unfold eT;show(M.get a).bind _=_;rw[IG g rfl];show(jx ((oB l).map (·.1))).bind _=_;rw[show(oB l).map (·.1)=vi (l.map (·.1)) from by unfold vi oB;rw[T4,T4];rfl,m9];exact aG (by rw[Sy];exact hl)
theorem Ql{l:List (Int×Int)}{x:Int}(h:x∈l.map (·.1)):∃t,lk l x=some t:=by
 induction l with
 |nil=>exact nomatch h
 |cons p l ih=>
  unfold lk at*;rw[Tj];by_cases c:x=p.1
  ·exact⟨p.2,by rw[beq_iff_eq.mpr c]⟩
  ·rw[beq_eq_false_iff_ne.mpr c]
   exact ih ((SO.mp h).resolve_left c)
section
variable(n:Nat)(s:St)
noncomputable def tE(x:Int):Bool:=decide ((s.bq:Int)-(lk s.bN x).getD 0<s.z4-1)
noncomputable def yC:List (Int×Bool):=(aB (s.bN.map (·.1))).foldl (λa x=>ji x (tE s x) a) []
noncomputable def HQ:List (Int×Bool):=ji 1 true (yC s)
noncomputable abbrev OU:List V:=[.ref 10,.ref 13,.int 1,.ref 112,.af]
theorem Nc(a:List (Int×Bool))(keys:List Int)(x t:Int)(h:lk s.bN x=some t)(hl:a.length<100):i9 (n+3) (.aA 4) (aY .jQ 1).body [4] (.ref 113) (vi keys) (.int x) OU (mem s++[.dict .int (jM a),aj keys]) OU (mem s++[.dict .int (jM (ji x (tE s x) a)),aj keys]):=by unfold tE;rw[h];exact gL (kV 2 (yi h)<|QI 4 (MP x (jP (f:= λp:Int×Bool=>(V.int p.1,V.bool p.2)) (SM hl (by decide:100<1048576)))) (rV x (decide ((s.bq:Int)-t<s.z4-1)) a)<|kI 0 (some (vi keys))<|kE)
theorem Jj(hh:s.bN.length<60):aq (zC (n+3) (aY .jQ 1) OU (.ref 113) (mem s++[.dict .int [],aj (aB (s.bN.map (·.1)))])) (.next OU) (mem s++[.dict .int (jM (yC s)),aj (aB (s.bN.map (·.1)))]):=
 rO.nj (c:=V.int) (l:=aB (s.bN.map (·.1))) (a:=([]:List (Int×Bool))) (E:= λ_=>OU) (M:= λa=>mem s++[.dict .int (jM a),aj (aB (s.bN.map (·.1)))]) (step:= λa x=>ji x (tE s x) a) (I:= λa xs=>a.length+xs.length<60∧∀x∈xs,x∈s.bN.map (·.1)) rfl
  ⟨by rw[kT,Sy];show 0+_<60;rw[Uq];exact hh,λx hx=>eN.mp hx⟩ (λ_=>rfl) λa x xs ⟨h1,h2⟩=>by
  obtain⟨t,ht⟩:=Ql (h2 x SI);have:=pN x (tE s x) a;rw[Va] at h1;exact⟨⟨by omega,λy hy=>h2 y (S0 _ hy)⟩,Nc n s a _ x t ht (by omega)⟩
theorem Gs(hh:s.bN.length<60):(yC s).length<60:=by
 have key:∀(l:List Int) (a:List (Int×Bool)),(l.foldl (λa x=>ji x (tE s x) a) a).length≤a.length+l.length:= λl=>by
  induction l with
  |nil=>exactλa=>SQ _
  |cons x l ih=>
   intro a;have h1:=ih (ji x (tE s x) a);have h2:=pN x (tE s x) a;rw[Va];exact SG h1 (by omega)
 have:=key (aB (s.bN.map (·.1))) [];rw[kT,Sy] at this;exact Sz this (by show 0+_<60;omega)
noncomputable def De:Bool:= !s.n6&&decide (jv (ah (aA s.av)) (ah (aA s.aI)) (lk (HQ s))=3)
theorem Qj(hh:s.bN.length<60):aq (aE (n+4) .jQ [.ref 10,.ref 13,.int 1] (mem s)) (.bool (De s)) (mem s):=by
 have hb:=MP 1 (jP (f:= λp:Int×Bool=>(V.int p.1,V.bool p.2)) (SM (Gs s hh) (by decide:60<1048576)));have hp:=rV 1 true (yC s);have hv:=wN n (ah (aA s.av)) (ah (aA s.aI)) (ah (two s.av)) (ah (bu s.av)) s.gV (HQ s) 13 14 15 16 17 112 rfl;have ho:∀b,s.n6=b→some s.n6=some b:= λb e=>bk some e;unfold De;cases h:s.n6 with
 |true=>exact gS rfl rfl (kM 1 ((λM=>Jr 20 (l:=s.bN) (SM hh (by decide)) M))<|kF 0 (Jj n s hh)<|QI 0 hb hp<|kB 1 (ho true h)<|gZ 1)
 |false=>exact gS rfl rfl (kM 1 ((λM=>Jr 20 (l:=s.bN) (SM hh (by decide)) M))<|kF 0 (Jj n s hh)<|QI 0 hb hp<|kB 1 (ho false h)<|kR 2 hv<|kB 0 (aT (i:=jv (ah (aA s.av)) (ah (aA s.aI)) (lk (HQ s))) (j:=3) rfl)<|gZ 0)
end
end
section
theorem acu(s:St)(K P:Nat→Bool)(N:Nat):(gY I s K P).map (O.bM (bQ (Sw 112) N))=gY I s K P:=(nV I _ s K P).trans (by kernel_rfl)
theorem Em.more(s:St)(ex:ai):Em (bQ (Sw 112) (mem s++ex).length) (mem s) (mem s++ex):=by
 have lo:∀i,i<112→bQ (Sw 112) (mem s++ex).length i=i:= λi h=>by unfold bQ;rw[Wj h];rfl
 have le:(mem s).length≤(mem s++ex).length:=by rw[S4];exact SV _ _
 refine⟨λa h=>by rw[lo a h];exact SX h le,λa h=>Cz h,λa o h _=> ?_,λa b ha hb q=> ?_⟩
 ·rw[lo a (ai.fL h)]
  have q:=bk (·[a]?) (acu s (λj:Nat=>ao s j) (oZ s) (mem s++ex).length);simp only[Tz] at q;rw[show(gY I s (λj:Nat=>ao s j) (oZ s))[a]? =some o from h] at q;exact(Ve (ai.fL h)).trans (h.trans q.symm)
 ·rwa [lo a (ai.ef ha),lo b (ai.ef hb)] at q
theorem aet{r:Nat}(h:r<256):wW (.ref 0) [.list [.int r]]=some (.bytes [TS r]):=by show aZ ((decide (0≤(r:Int))&&decide ((r:Int)<256)&&true)=true) (V.bytes [TS (r:Int).toNat])=_;rw[aZ,aG (by rw[aC (Tw r),aC (show(r:Int)<256 by exact_mod_cast h)];rfl)];rfl
theorem mh(v:V)(h:V.bT 8 v v=true):(aZ (V.bT 8 v v=true) (decide (v=v))).map (! ·)=some false:=by rw[aZ,aG h,aC rfl];rfl
section
variable(n:Nat)(s:St)
noncomputable def AB(p:Int×Int):Bool:=decide ((s.bq:Int)-p.2<s.z4-1)
noncomputable def qY:List Int:=(s.dU.filter (AB s)).map (·.1)
theorem Q2(l:List (Int×Int)):l.filterMap (λp=>if AB s p=true then some p.1 else none)=(l.filter (AB s)).map (·.1):=by
 induction l with
 |nil=>rfl
 |cons p l ih=>
  rw[X5,T6];cases h:AB s p with
  |true=>rw[aG rfl,aG rfl];exact bk _ ih
  |false=>rw[aJ Tc,aJ Tc];exact ih
noncomputable def jl(r:Nat):V:= .bJ [aP r,.int (s.ix r),.bytes [TS r],.bJ (vi (aB (bO s.bh r)))]
noncomputable abbrev rdE:List V:=[.ref 0,.ref 11,.ref 112,.af,.af,.af,.af,.af]
theorem Gd{m:ai}(hg:s.aS≤s.nn):aO (.range (s.aS:Int) (s.nn:Int)) m=some ((bC s).map λr:Nat=>V.int (r:Int)):=by show some ((Sw ((s.nn:Int)-(s.aS:Int)).toNat).map λi:Nat=>V.int ((s.aS:Int)+(i:Int)))=_;rw[show((s.nn:Int)-(s.aS:Int)).toNat=s.nn-s.aS from by omega];unfold bC;rw[List.range'_eq_map_range,T4];rfl
theorem QM(a:List Nat)(r:Nat)(bD:List V)(hi:some ((Sw ((s.nn:Int)-(s.aS:Int)).toNat).map λi:Nat=>V.int ((s.aS:Int)+(i:Int)))=some bD)(h2:r<s.nn)(hn:s.nn≤13)(hs:s.bh.length<60)(ha:(a.map (jl s)).length<ay):
  i9 (n+1) (.aA 3) (aY .gz 2).body [3] (.range s.aS s.nn) bD (.int r) rdE (mem s++[.list (a.map (jl s))]) rdE (mem s++[.list ((a++[r]).map (jl s))]++[.list [.int r],aj (aB (bO s.bh r))]):=
 gL (kV 2 (vh (c:=aP) h2 hn)<|kV 1 (vh (c:=yu s) h2 hn)<|kV 2 (aet (r:=r) (by omega))<|jE 0 (w5 n s r (SM hs (by decide)))<|Hi 1 ha (nI (jl s) a r)<|kG 0 hi<|kE)
end
end
section
section
variable(n:Nat)(s:St)
theorem Gv(r:Nat):(jl s r).pure=true:=by show(true&&(true&&(true&&(V.jm (vi (aB (bO s.bh r)))&&true))))=true;rw[eO];rfl
theorem N2(hg:s.aS≤s.nn)(hn:s.nn≤13)(hs:s.bh.length<60):aq (zC (n+1) (aY .gz 2) rdE (.range s.aS s.nn) (mem s++[.list []])) (.next rdE) (mem s++[.list ((bC s).map (jl s))]):=by
 have h:=rO.A6 (n:=n+1) (t:= .aA 3) (v:= .range s.aS s.nn) (body:=(aY .gz 2).body) (bf:=[3]) (c:= λr:Nat=>V.int (r:Int)) (l:=bC s) (a:=([]:List Nat)) (k:=113) (E:= λ_=>rdE) (M:= λa:List Nat=>mem s++[.list (a.map (jl s))]) (step:= λa r=>a++[r]) (I:= λa xs=>a++xs=bC s) (Gd s hg) rfl (λ_=>rfl)
  (λa r xs hI=>by obtain⟨h1,h2,h3⟩:=Ek s hI;exact⟨by rw[Ud];exact hI,rdE,_,QM n s a r _ (Gd (m:=[]) s hg) h2 hn hs (jP (SX h3 (SG (TZ hn) (by decide)))),Nx.cut 113 rfl (λN=>aba s ((a++[r]).map (jl s)) (λf=>pL f (λr=>V.nT f _ (Gv s r)) _) N) (λ_=>rfl) (λ_=>rfl) (Gd s hg)⟩) rfl
 rw[sY] at h;exact h
theorem acw(M:ai)(hi:aO (.ref 4) M=some (s.dU.map aR))(h0:M.get 0=some (wO I s))(hl:s.dU.length<100)(k:Nat):aq (vM (n+1) (aY .gz 4).ex.rt [.ref 0,.ref 11,.ref 112,.af,.af,.af,.af,.af] (.ref 4) M) (.ref M.next) (M.push (aj (qY s))):=by
 have w:∀i v,look (.str i) [(.str 0,.ref (I 1)),(.str 1,.ref (I 2)),(.str 13,.bool s.gV),(.str 12,.ref (I 9)),(.str 14,.ref (I 3)),(.str 16,.int s.c9),(.str 11,.ref (I 10)),(.str 9,.int s.z4),(.str 8,.int s.bq),(.str 7,.ref (I 4)),(.str 10,.bool s.n6),(.str 3,.ref (I 11)),(.str 4,.ref (I 5)),(.str 6,.ref (I 6)),(.str 18,.ref (I 7)),(.str 2,.ref (I 12)),(.str 5,.int s.aS),(.str 15,.ref (I 8)),(.str 17,.int s.xF)]=some v→item (.ref 0) (.str i) M=some v:= λi v e=>by show(M.get 0).bind _=_;rw[h0];exact e
 have h:=pq.zp (n:=n+1) (t:= .iJ [6,7]) (v:= .ref 4) (cs:=(aY .gz 4).ex.rt.cs) (el:= .zv 6) (env:=[.ref 0,.ref 11,.ref 112,.af,.af,.af,.af,.af]) (m:=M) (c:=aR) (l:=s.dU) (g:= λp=>if AB s p=true then some p.1 else none) hi (SM hl (by decide)) λx _=>by
  cases c:AB s x with
  |true=>exact gC (kV 0 (w 8 (.int s.bq) rfl)<|kV 1 (w 9 (.int s.z4) rfl)<|kB 1 (eZ c)<|kG 1 hi<|kE)
  |false=>exact gC (kV 0 (w 8 (.int s.bq) rfl)<|kV 1 (w 9 (.int s.z4) rfl)<|kB 1 (eZ c)<|kG 1 hi<|kE)
 rw[Q2] at h;exact h
end
end
section
theorem Fy(k:Nat)(l:List V)(h:∀v∈l,V.bT k v v=true):((l.zip l).all λp=>V.bT k p.1 p.2)=true:=by
 induction l with
 |nil=>rfl
 |cons v l ih=>exact Sn.mpr ⟨h v SI,ih λx hx=>h x (S0 _ hx)⟩
theorem C4(k:Nat)(l:List Int):V.bT (k+2) (.bJ (vi l)) (.bJ (vi l))=true:=Fy (k+1) _ λv hv=>by obtain⟨i,_,rfl⟩:=SW.mp hv;rfl
theorem cJ{n:Nat}{g:Fn}{vs:List V}{v:V}{s:St}(ex:ai)(h:aq (aE n g vs (mem s)) v (mem s))(hp:v.pure=true)(ha:∀N,V.fW (bQ (Sw 112) N) vs=vs):aq (aE n g vs (mem s++ex)) v (mem s++ex):=by have q:=eB h (Em.more s ex);rw[ha,V.nT _ v hp] at q;exact q
theorem Cy(a b:Nat)(ha:a≤13)(hb:b≤13):qG (.int (a:Int)) (.int (b:Int))=some (.range (a:Int) (b:Int)):=
 aG ⟨show a<_ from Sz ha (by decide),show b<_ from Sz hb (by decide)⟩
section
variable(n:Nat)(s:St)
structure w9:Prop where
 nn:s.nn≤13
 aS:s.aS≤s.nn
 bh:s.bh.length<60
 ak:∀r,s.aS≤r→r<s.nn→s.ak r=bO s.bh r
 NK:∀r,(s.ak r).length<64
 bN:s.bN.length<60
 dU:s.dU.length<100
 ahU:De s=(!s.n6&&gi (ah (aA s.av)) (ah (aA s.aI)) (pG (1::qY s)))
noncomputable def qt:V:= .bJ [.int 1,.int s.nn,.bJ ((bC s).map (jl s))]
theorem Jt:V.bT 8 (qt s) (qt s)=true:=by
 show(true&&(true&&(V.bT 7 (.bJ ((bC s).map (jl s))) (.bJ ((bC s).map (jl s)))&&true)))=true;rw[show V.bT 7 (.bJ ((bC s).map (jl s))) (.bJ ((bC s).map (jl s)))=true from Fy 6 _ λv hv=>by obtain⟨r,_,rfl⟩:=SW.mp hv;show(true&&(true&&(true&&(V.bT 5 (.bJ (vi (aB (bO s.bh r)))) (.bJ (vi (aB (bO s.bh r))))&&true))))=true;rw[C4];rfl];rfl
theorem KH(o:w9 s):CD s=qt s:=by
 unfold CD qt;rw[Tg λr hr=>show EJ s r=jl s r by unfold EJ jl;rw[o.ak r (i8.mp hr).1 (i8.mp hr).2]]
theorem ahl(o:w9 s)(ex:ai):aq (aE (n+2) .fH [.ref 11] (mem s++ex)) (qt s) (mem s++ex):=
 KH s o▸cJ ex (aho n s o.nn o.NK) (vE s) λ_=>rfl
theorem Mc(o:w9 s):aq (aE (n+5) .gz [.ref 0] (mem s)) (.bool true) (mem s):=by
 have hl:=tF (l:=(Sw s.nn).map aP) (k:=s.nn) (by rw[Sy,Uz]);have hr:=ahl (n+2) s o [.list ((bC s).map (jl s))];have hq:=mh (qt s) (Jt s);have hn:=acw (n+3) s (mem s++[.list ((bC s).map (jl s)),.list [.int 1]]) rfl rfl o.dU 0;have nl:(qY s).length≤s.dU.length:=by unfold qY;rw[Sy];exact WI ..
 have hb:([V.int 1].length+(vi (qY s)).length<ay):=by rw[Sy];exact Sz (VE (Tv (Sz nl o.dU)) 1) (by decide)
 have hw:=ou (n+2) s (1::qY s) 115 rfl;have hh:=cJ [.list ((bC s).map (jl s)),.list [.int 1],aj (qY s),aj (1::qY s)] (Qj n s o.bN) rfl λ_=>rfl;rw[o.ahU] at hh;have bb:∀b:Bool,om (.bool b) (.bool b) []=some true:= λb=>by show some (decide (V.bool b=.bool b))=_;rw[aC rfl]
 cases ho:s.n6 with
 |true=>
  rw[ho] at hh;exact gS rfl rfl (kV 4 hl<|kV 0 (Cy s.aS s.nn (SG o.aS o.nn) o.nn)<|kF 0 (N2 (n+3) s o.aS o.nn o.bh)<|kC 1 hr<|kV 1 hl<|kB 1 hq<|kC 3 hn<|kG 0 hb<|kB 1 (sj ho)<|kC 5 hh<|gZ 1)
 |false=>
  rw[ho] at hh;exact gS rfl rfl (kV 4 hl<|kV 0 (Cy s.aS s.nn (SG o.aS o.nn) o.nn)<|kF 0 (N2 (n+3) s o.aS o.nn o.bh)<|kC 1 hr<|kV 1 hl<|kB 1 hq<|kC 3 hn<|kG 0 hb<|kB 1 (sj ho)<|kR 1 hw<|kC 4 hh<|kB 0 (bb (gi (ah (aA s.av)) (ah (aA s.aI)) (pG (1::qY s))))<|gZ 0)
end
end
section
section
variable(n:Nat)
noncomputable def cfV(a b l x:List Int)(ca:Bool):V:= .bJ [.bJ (vi a),.bJ (vi b),.bJ (vi l),.bJ (vi x),.bool ca]
theorem E9(a b l x:List Int)(ca:Bool):(cfV a b l x ca).pure=true:=by show(V.jm (vi a)&&(V.jm (vi b)&&(V.jm (vi l)&&(V.jm (vi x)&&true))))=true;rw[eO,eO,eO,eO];rfl
theorem ahs(a b l x:List Int)(ca:Bool):aq (aE (n+1) .oN [.ref 0] [dJ 1 2 3 4 ca,aj a,aj b,aj l,aj x]) (cfV a b l x ca) [dJ 1 2 3 4 ca,aj a,aj b,aj l,aj x]:=
 gS rfl (E9 a b l x ca) (gZ 9)
theorem F3(a b l x:List Int)(ca:Bool)(p q r s t:Nat)(hn:wk [p,q,r,s,t]=true)(M:ai)(g:b7 [(p,dJ q r s t ca),(q,aj a),(r,aj b),(s,aj l),(t,aj x)] M):aq (aE (n+1) .oN [.ref p] M) (cfV a b l x ca) M:=by have h:=eB (ahs n a b l x ca) (Em.of g hn (ec rfl (ec (az _ a) (ec (az _ b) (ec (az _ l) (ec (az _ x) rfl))))) rfl);rw[V.nT _ _ (E9 a b l x ca)] at h;exact h
noncomputable def prV(k:Kn)(lr:Bool):V:= .bJ [.int k.mt,.int k.up,.int k.st,.int k.pd,.bool k.ac,.bool false,.bool lr,.bJ [.int 2,.int 0,.int 0,.bJ []]]
theorem ahQ:aq (aE (n+2) .jL [.ref 0] [gH 1,.list []]) (.bJ [.int 2,.int 0,.int 0,.bJ []]) [gH 1,.list []]:=
 gS rfl rfl (kSl 10 2 2 ([gH 1,O.list []]) (l:=[]) rfl rfl<|gZ 1)
theorem ad3(p q:Nat)(hn:wk [p,q]=true)(M:ai)(g:b7 [(p,gH q),(q,.list [])] M):aq (aE (n+2) .jL [.ref p] M) (.bJ [.int 2,.int 0,.int 0,.bJ []]) M:=
 eB (ahQ n) (Em.of g hn (ec rfl (ec rfl rfl)) rfl)
theorem ag9(k:Kn)(lr:Bool):aq (aE (n+3) .i7 [.ref 0] [pg k lr 1,gH 2,.list []]) (prV k lr) [pg k lr 1,gH 2,.list []]:=
 gS rfl rfl (kR 9 (ad3 n 1 2 rfl)<|gZ 0)
theorem aep(k:Kn)(lr:Bool)(p q r:Nat)(hn:wk [p,q,r]=true)(M:ai)(g:b7 [(p,pg k lr q),(q,gH r),(r,.list [])] M):aq (aE (n+3) .i7 [.ref p] M) (prV k lr) M:=
 eB (ag9 n k lr) (Em.of g hn (ec rfl (ec rfl (ec rfl rfl))) rfl)
end
section
variable(n:Nat)(s:St)
noncomputable abbrev stE:List V:=[.ref 0,.ref 9,.ref 1,.ref 2,.range 0 6,.af,.af,.af,.af,.af,.af,.af,.af,.af,.af,.af,.af,.af,.af,.af,.af,.af,.af,.af,.af,.af,.af,.af,.af,.af,.af]
theorem Oi(ex:ai):aq (vM n (((aY .aK 4).ex.arg 0).arg 0) stE (.range 0 6) (mem s++ex)) (.ref (mem s++ex).next) ((mem s++ex).push (aj (ah (aA s.av)))):=by
 have h:=pq.zp (n:=n) (t:= .aA 23) (v:= .range 0 6) (cs:=(((aY .aK 4).ex.arg 0).arg 0).cs) (el:= .zv 23) (env:=stE) (m:=mem s++ex) (c:=V.int) (l:=U6) (g:= λx=>if(aA s.av) x=true then some x else none) rfl (by decide) λx hx=>by
  by_cases c:s.av x=1
  ·rw[aG (show(aA s.av) x=true from aC c)]
   exact gC (kV 0 (kg s.av x hx)<|kB 0 (aT (aC c))<|kI 1 (some (SP V.int U6))<|kE)
  ·rw[aJ (show¬(aA s.av) x=true fromλz=>c (of_decide_eq_true z))]
   exact gC (kV 0 (kg s.av x hx)<|kB 0 (aT (aH c))<|kI 1 (some (SP V.int U6))<|kE)
 rw[ku] at h;exact h
theorem NN(ex:ai):aq (vM n (((aY .aK 4).ex.arg 1).arg 0) stE (.range 0 6) (mem s++ex)) (.ref (mem s++ex).next) ((mem s++ex).push (aj (ah (aA s.aI)))):=by
 have h:=pq.zp (n:=n) (t:= .aA 22) (v:= .range 0 6) (cs:=(((aY .aK 4).ex.arg 1).arg 0).cs) (el:= .zv 22) (env:=stE) (m:=mem s++ex) (c:=V.int) (l:=U6) (g:= λx=>if(aA s.aI) x=true then some x else none) rfl (by decide) λx hx=>by
  by_cases c:s.aI x=1
  ·rw[aG (show(aA s.aI) x=true from aC c)]
   exact gC (kV 0 (kg s.aI x hx)<|kB 0 (aT (aC c))<|kI 1 (some (SP V.int U6))<|kE)
  ·rw[aJ (show¬(aA s.aI) x=true fromλz=>c (of_decide_eq_true z))]
   exact gC (kV 0 (kg s.aI x hx)<|kB 0 (aT (aH c))<|kI 1 (some (SP V.int U6))<|kE)
 rw[ku] at h;exact h
theorem NG(ex:ai):aq (vM n (((aY .aK 4).ex.arg 2).arg 0) stE (.range 0 6) (mem s++ex)) (.ref (mem s++ex).next) ((mem s++ex).push (aj (ah (two s.av)))):=by
 have h:=pq.zp (n:=n) (t:= .aA 21) (v:= .range 0 6) (cs:=(((aY .aK 4).ex.arg 2).arg 0).cs) (el:= .zv 21) (env:=stE) (m:=mem s++ex) (c:=V.int) (l:=U6) (g:= λx=>if(two s.av) x=true then some x else none) rfl (by decide) λx hx=>by
  by_cases c:s.av x=2
  ·rw[aG (show(two s.av) x=true from aC c)]
   exact gC (kV 0 (kg s.av x hx)<|kB 0 (aT (aC c))<|kI 1 (some (SP V.int U6))<|kE)
  ·rw[aJ (show¬(two s.av) x=true fromλz=>c (of_decide_eq_true z))]
   exact gC (kV 0 (kg s.av x hx)<|kB 0 (aT (aH c))<|kI 1 (some (SP V.int U6))<|kE)
 rw[ku] at h;exact h
theorem Pk(ex:ai):aq (vM n (((aY .aK 4).ex.arg 3).arg 0) stE (.range 0 6) (mem s++ex)) (.ref (mem s++ex).next) ((mem s++ex).push (aj (ah (bu s.av)))):=by
 have h:=pq.zp (n:=n) (t:= .aA 20) (v:= .range 0 6) (cs:=(((aY .aK 4).ex.arg 3).arg 0).cs) (el:= .zv 20) (env:=stE) (m:=mem s++ex) (c:=V.int) (l:=U6) (g:= λx=>if(bu s.av) x=true then some x else none) rfl (by decide) λx hx=>by
  by_cases c:s.av x=3
  ·rw[aG (show(bu s.av) x=true from aC c)]
   exact gC (kV 0 (kg s.av x hx)<|kB 0 (aT (aC c))<|kI 1 (some (SP V.int U6))<|kE)
  ·rw[aJ (show¬(bu s.av) x=true fromλz=>c (of_decide_eq_true z))]
   exact gC (kV 0 (kg s.av x hx)<|kB 0 (aT (aH c))<|kI 1 (some (SP V.int U6))<|kE)
 rw[ku] at h;exact h
theorem MT(ex:ai):aq (vM n (aY .aK 7).ex [.ref 0,.ref 9,.ref 1,.ref 2,.range 0 6,.ref 116,.ref 3,.af,.af,.af,.af,.af,.af,.af,.af,.af,.af,.af,.af,.af,.af,.af,.af,.af,.af,.af,.af,.af,.af,.af,.af] (.range 0 6) (mem s++ex)) (.ref (mem s++ex).next) ((mem s++ex).push (aj (ah (ao s)))):=by
 have h:=pq.zp (n:=n) (t:= .aA 24) (v:= .range 0 6) (cs:=(aY .aK 7).ex.cs) (el:= .zv 24) (env:=[.ref 0,.ref 9,.ref 1,.ref 2,.range 0 6,.ref 116,.ref 3,.af,.af,.af,.af,.af,.af,.af,.af,.af,.af,.af,.af,.af,.af,.af,.af,.af,.af,.af,.af,.af,.af,.af,.af]) (m:=mem s++ex) (c:=V.int) (l:=U6) (g:= λx=>if(ao s) x=true then some x else none) rfl (by decide) λx hx=>by
  unfold ao;by_cases c:0<s.av x
  ·rw[aC c]
   exact gC (kV 0 (kg s.av x hx)<|kB 0 (eZ (aC c))<|kI 2 (some (SP V.int U6))<|kE)
  ·rw[aH c]
   by_cases d:s.aI x=1
   ·rw[aC d]
    exact gC (kV 0 (kg s.av x hx)<|kB 0 (eZ (aH c))<|kV 1 (kg s.aI x hx)<|kB 0 (aT (aC d))<|kI 1 (some (SP V.int U6))<|kE)
   ·rw[aH d]
    exact gC (kV 0 (kg s.av x hx)<|kB 0 (eZ (aH c))<|kV 1 (kg s.aI x hx)<|kB 0 (aT (aH d))<|kI 1 (some (SP V.int U6))<|kE)
 rw[ku] at h;exact h
end
end
section
section
variable(n:Nat)(s:St)
noncomputable abbrev stG:List V:=[.ref 0,.ref 9,.ref 1,.ref 2,.range 0 6,.ref 116,.ref 3,.ref 117,.af,.af,.af,.af,.af,.af,.af,.af,.af,.af,.af,.af,.af,.af,.af,.af,.af,.af,.af,.af,.af,.af,.af]
theorem KP(ex:ai):∀xj:Int,xj∈U6→look (.int xj) (jA (ao s) I 23)=some (.ref (tb I 23 xj))→look (.int xj) (jA (ao s) I 24)=some (.ref (tb I 24 xj))→bA (vi (tl s.av)) xj=some (.int (s.av xj))→
  (∀M,b7 [(24+4*xj.toNat,pg (s.kn xj) (two s.av xj) (25+4*xj.toNat)),(25+4*xj.toNat,gH (26+4*xj.toNat)),(26+4*xj.toNat,.list [])] M→aq (aE (n+3) .i7 [.ref (24+4*xj.toNat)] M) (prV (s.kn xj) (two s.av xj)) M)→(aZ (V.bT 8 (prV (s.kn xj) (two s.av xj)) (prV (s.kn xj) (two s.av xj))=true) (decide (prV (s.kn xj) (two s.av xj)=prV (s.kn xj) (two s.av xj)))).map (! ·)=some false→
  om (.int (s.av xj)) (.int 2) []=some (two s.av xj)→aO (.ref 117) (iY xj.toNat s++ex)=some (vi (ah (ao s)))→
  i9 (n+3) (.aA 8) (aY .aK 9).body [8,9,10,11,12,13,14] (.ref 117) (vi (ah (ao s))) (.int xj) stG (iY xj.toNat s++ex) ([.ref 0,.ref 9,.ref 1,.ref 2,.range 0 6,.ref 116,.ref 3,.ref 117,.af,.af,.af,.af,.af,.af,.af,.af,.af,.af,.af,.af,.af,.af,.af,.af,.af,.af,.af,.af,.af,.af,.af]) (iY xj.toNat s++ex):=by
 intro xj hx g1 g2 g3 g4 g5 g6 g7;exact JN (λ_=>jj 0 g1<|jj 0 g3<|j8 0 g6<|jj 1 g2<|HX 1 g4<|j8 0 g5<|chG 1 g7<|zF) (by clear g1 g2 g3 g4 g5 g6 g7;revert xj;exact o7 (by kernel_rfl))
theorem x7(ex:ai)(hi:∀K:Nat→Bool,aO (.ref 117) (gY I s K (oZ s)++ex)=some (vi (ah (ao s)))):aq (zC (n+3) (aY .aK 9) stG (.ref 117) (mem s++ex)) (.next stG) (mem s++ex):=
 rO.nj (c:=V.int) (l:=ah (ao s)) (a:=()) (E:= λ_=>stG) (M:= λ_=>mem s++ex) (step:= λa _=>a) (I:= λ_ xs=> ∀x∈xs,x∈ah (ao s)) (hi _) (λx h=>h) (λ_=>rfl) λa x xs h=>⟨λy hy=>h y (S0 _ hy),by have hm:=h x SI;have t:=KP n s ex x (dw hm) (eY hm) (ny hm) (kg s.av x (dw hm)) (aep n (s.kn x) (two s.av x) _ _ _ (KZ (P:= λx=>wk [24+4*x.toNat,25+4*x.toNat,26+4*x.toNat]=true) rfl rfl rfl rfl rfl rfl x (dw hm))) (mh _ rfl) (aT rfl) (hi _);rw[eU hm] at t;exact t⟩
end
end
section
section
variable(n:Nat)(s:St)
noncomputable def cL(x:Int):Bool:=aA s.av x||aA s.aI x
theorem Oe(ex:ai):aq (vM n (aY .aK 10).ex stG (.range 0 6) (mem s++ex)) (.ref (mem s++ex).next) ((mem s++ex).push (aj (ah (cL s)))):=by
 have h:=pq.zp (n:=n) (t:= .aA 25) (v:= .range 0 6) (cs:=(aY .aK 10).ex.cs) (el:= .zv 25) (env:=stG) (m:=mem s++ex) (c:=V.int) (l:=U6) (g:= λx=>if(cL s) x=true then some x else none) rfl (by decide) λx hx=>by
  unfold cL aA;by_cases c:s.av x=1
  ·rw[aC c]
   exact gC (kV 0 (kg s.av x hx)<|kB 0 (aT (aC c))<|kI 2 (some (SP V.int U6))<|kE)
  ·rw[aH c]
   by_cases d:s.aI x=1
   ·rw[aC d]
    exact gC (kV 0 (kg s.av x hx)<|kB 0 (aT (aH c))<|kV 1 (kg s.aI x hx)<|kB 0 (aT (aC d))<|kI 1 (some (SP V.int U6))<|kE)
   ·rw[aH d]
    exact gC (kV 0 (kg s.av x hx)<|kB 0 (aT (aH c))<|kV 1 (kg s.aI x hx)<|kB 0 (aT (aH d))<|kI 1 (some (SP V.int U6))<|kE)
 rw[ku] at h;exact h
noncomputable def tY(b:Bool)(x:Int):Bool:=decide ((x,b)∈s.bP)
noncomputable abbrev bV(b:Bool):List Int:=(ah (cL s)).filter (tY s b)
theorem yN:(ah (cL s)).length<ay:=Sz (cQ _) (by decide)
noncomputable abbrev stY:List V:=[.ref 0,.ref 9,.ref 1,.ref 2,.range 0 6,.ref 116,.ref 3,.ref 117,.af,.af,.af,.af,.af,.af,.af,.ref 119,.af,.af,.af,.af,.af,.af,.af,.af,.af,.af,.af,.af,.af,.af,.af]
noncomputable abbrev stN:List V:=[.ref 0,.ref 9,.ref 1,.ref 2,.range 0 6,.ref 116,.ref 3,.ref 117,.af,.af,.af,.af,.af,.af,.af,.ref 119,.ref 120,.af,.af,.af,.af,.af,.af,.af,.af,.af,.af,.af,.af,.af,.af]
theorem PA(ex:ai)(hi:aO (.ref 119) (mem s++ex)=some (vi (ah (cL s)))):aq (vM n (aY .aK 11).ex stY (.ref 119) (mem s++ex)) (.ref (mem s++ex).next) ((mem s++ex).push (aj (bV s true))):=by
 have h:=pq.zp (n:=n) (t:= .aA 26) (v:= .ref 119) (cs:=(aY .aK 11).ex.cs) (el:= .zv 26) (env:=stY) (m:=mem s++ex) (c:=V.int) (l:=ah (cL s)) (g:= λx=>if(tY s true) x=true then some x else none) hi (yN s) λx hx=>by
  cases c:tY s true x with
  |true=>exact gC (kB 1 (yh (j:=x) (b:=true) (l:=s.bP) c)<|kG 1 hi<|kE)
  |false=>exact gC (kB 1 (yh (j:=x) (b:=true) (l:=s.bP) c)<|kG 1 hi<|kE)
 rw[ku] at h;exact h
theorem adD(ex:ai)(hi:aO (.ref 119) (mem s++ex)=some (vi (ah (cL s)))):aq (vM n (aY .aK 12).ex stN (.ref 119) (mem s++ex)) (.ref (mem s++ex).next) ((mem s++ex).push (aj (bV s false))):=by
 have h:=pq.zp (n:=n) (t:= .aA 27) (v:= .ref 119) (cs:=(aY .aK 12).ex.cs) (el:= .zv 27) (env:=stN) (m:=mem s++ex) (c:=V.int) (l:=ah (cL s)) (g:= λx=>if(tY s false) x=true then some x else none) hi (yN s) λx hx=>by
  cases c:tY s false x with
  |true=>exact gC (kB 1 (yh (j:=x) (b:=false) (l:=s.bP) c)<|kG 1 hi<|kE)
  |false=>exact gC (kB 1 (yh (j:=x) (b:=false) (l:=s.bP) c)<|kG 1 hi<|kE)
 rw[ku] at h;exact h
noncomputable def AD(x:Int):Bool:= !pG (bV s false) x
noncomputable abbrev stW:List V:=[.ref 0,.ref 9,.ref 1,.ref 2,.range 0 6,.ref 116,.ref 3,.ref 117,.af,.af,.af,.af,.af,.af,.af,.ref 119,.ref 120,.ref 121,.int 1,.af,.af,.af,.af,.af,.af,.af,.af,.af,.af,.af,.af]
noncomputable abbrev NT:E:=match aY .aK 14 with
 |.cO _ _ (.zc (.cO (.not (.call _ (.zc _ (.zc e _)))) _ _) _)=>e
 |_=> .stuck
theorem acI(ex:ai)(hi:aO (.ref 119) (mem s++ex)=some (vi (ah (cL s))))(hw:(mem s++ex).get 121=some (aj (bV s false))):aq (vM n NT stW (.ref 119) (mem s++ex)) (.ref (mem s++ex).next) ((mem s++ex).push (aj ((ah (cL s)).filter (AD s)))):=by
 have h:=pq.zp (n:=n) (t:= .aA 28) (v:= .ref 119) (cs:=NT.cs) (el:= .zv 28) (env:=stW) (m:=mem s++ex) (c:=V.int) (l:=ah (cL s)) (g:= λx=>if(AD s) x=true then some x else none) hi (yN s) λx hx=>by
  unfold AD;cases c:pG (bV s false) x with
  |true=>exact gC (kB 0 (bk (Ua (! ·)) (Ca hw c))<|kG 1 hi<|kE)
  |false=>exact gC (kB 0 (bk (Ua (! ·)) (Ca hw c))<|kG 1 hi<|kE)
 rw[ku] at h;exact h
end
end
section
section
variable(n:Nat)(s:St)
theorem agj(ex:ai)(K:Nat→Bool):∀x:Int,x∈U6→item (.ref (tb I 23 x)) (.int 0) (gY I s (λi=>SA i x.toNat||K i) (oZ s)++ex)=some (.int (s.kn x).mt):=KZ rfl rfl rfl rfl rfl rfl
theorem ad4(ex:ai)(K:Nat→Bool):∀x:Int,x∈U6→item (.ref (tb I 23 x)) (.int 4) (gY I s (λi=>SA i x.toNat||K i) (oZ s)++ex)=some (.bool (s.kn x).ac):=KZ rfl rfl rfl rfl rfl rfl
theorem vU(ex:ai){x:Int}(hm:x∈ah (ao s)):item (.ref (tb I 23 x)) (.int 0) (mem s++ex)=some (.int (s.kn x).mt):=by
 have h:=agj s ex (λi:Nat=>ao s i) x (dw hm)
 rwa [show gY I s (λi=>SA i x.toNat||ao s i) (oZ s)=mem s from eU hm] at h
theorem ahn(ex:ai){x:Int}(hm:x∈ah (ao s)):item (.ref (tb I 23 x)) (.int 4) (mem s++ex)=some (.bool (s.kn x).ac):=by
 have h:=ad4 s ex (λi:Nat=>ao s i) x (dw hm)
 rwa [show gY I s (λi=>SA i x.toNat||ao s i) (oZ s)=mem s from eU hm] at h
theorem CG{x:Int}(h:x∈ah (cL s)):x∈ah (ao s):=by
 obtain⟨h6,hv⟩:=aL.mp h;refine aL.mpr ⟨h6,?_⟩;unfold cL aA at hv;unfold ao;rcases apg.mp hv with c|c
 ·rw[aC (show 0<s.av x by rw[of_decide_eq_true c];decide)];rfl
 ·rw[c];exact UR _
noncomputable def geB(x y:Int):Bool:=decide ((s.kn x).mt≤(s.kn y).mt)
noncomputable abbrev Ly(x:Int):List Int:=(ah (cL s)).filter (geB s x)
noncomputable abbrev iG(l:List Int):Bool:=gi (ah (aA s.av)) (ah (aA s.aI)) (pG l)
noncomputable def nX(b x:Int):Int:=if b<(s.kn x).mt then(if iG s (Ly s x)=true then(s.kn x).mt else b) else b
noncomputable def oq(a:Int×ai)(x:Int):Int×ai:=(nX s a.1 x,if a.1<(s.kn x).mt then a.2++[aj (Ly s x)] else a.2)
noncomputable def gW:Int:=(ah (cL s)).foldl (nX s) 0
theorem ER(l:List Int):∀a,(l.foldl (oq s) a).1=l.foldl (nX s) a.1:=by
 induction l with
 |nil=>exactλ_=>rfl
 |cons x l ih=>exactλa=>ih _
theorem vB(pre:ai)(l:List Int):∀b ex,∃g,(l.foldl (oq s) (b,pre++ex)).2=pre++g:=by
 induction l with
 |nil=>exactλb ex=>⟨ex,rfl⟩
 |cons x l ih=>
  intro b ex;show∃g,(l.foldl (oq s) (nX s b x,if b<(s.kn x).mt then(pre++ex)++[aj (Ly s x)] else pre++ex)).2=pre++g;by_cases c:b<(s.kn x).mt
  ·rw[aG c,Ud];exact ih _ _
  ·rw[aJ c];exact ih _ _
noncomputable abbrev geE:E:=match(aY .aK 17).body.LG 0 with
 |.cO (.and (.zc _ (.zc (.call _ (.zc _ (.zc e _))) _))) _ _=>e
 |_=> .stuck
variable(e:Int)(x:Int)(b:Int)
noncomputable abbrev stB:List V:=[.ref 0,.ref 9,.ref 1,.ref 2,.range 0 6,.ref 116,.ref 3,.ref 117,.int x,.af,.af,.af,.af,.af,.af,.ref 119,.ref 120,.ref 121,.int e,.int b,.af,.af,.af,.af,.af,.af,.af,.af,.af,.af,.af]
noncomputable abbrev stA:List V:=[.ref 0,.ref 9,.ref 1,.ref 2,.range 0 6,.ref 116,.ref 3,.ref 117,.af,.af,.af,.af,.af,.af,.af,.ref 119,.ref 120,.ref 121,.int e,.int b,.af,.af,.af,.af,.af,.af,.af,.af,.af,.af,.af]
theorem akc(hx:x∈ah (ao s))(ex:ai)(hi:aO (.ref 119) (mem s++ex)=some (vi (ah (cL s)))):aq (vM n geE (stB e x b) (.ref 119) (mem s++ex)) (.ref (mem s++ex).next) ((mem s++ex).push (aj (Ly s x))):=by
 have h:=pq.zp (n:=n) (t:= .aA 29) (v:= .ref 119) (cs:=geE.cs) (el:= .zv 29) (env:=stB e x b) (m:=mem s++ex) (c:=V.int) (l:=ah (cL s)) (g:= λy=>if(geB s x) y=true then some y else none) hi (yN s) λy hy=>by
  have hy:=CG s hy;cases c:geB s x y with
  |true=>exact gC (kV 0 (eY hy)<|kV 0 (vU s ex hy)<|kV 0 (eY hx)<|kV 0 (vU s ex hx)<|kB 0 (Dl c)<|kG 1 hi<|kE)
  |false=>exact gC (kV 0 (eY hy)<|kV 0 (vU s ex hy)<|kV 0 (eY hx)<|kV 0 (vU s ex hx)<|kB 0 (Dl c)<|kG 1 hi<|kE)
 rw[ku] at h;exact h
end
end
section
section
variable(n:Nat)(s:St)
theorem mP(aF:List Int)(ex:ai):aq (aE (n+2) .fR [.ref 0,.ref (mem s++ex).next] ((mem s++ex).push (aj aF))) (.bool (iG s aF)) ((mem s++ex).push (aj aF)):=
 ou n s aF _ (aqj (SG (TF (show UC 13 (mem s).length=true from rfl)) (by unfold ai.next;rw[S4];exact SV _ _))) _ (bX rfl (bX rfl (bX rfl (bX rfl (bX (by show aj aF=(((mem s++ex)++[aj aF])[(mem s++ex).length]?).getD .aM;rw[X3 (SQ _),Wi];rfl) rfl)))))
variable(e:Int)(x:Int)(b:Int)
theorem Kz(hx:x∈ah (cL s))(ex:ai)(hi:aO (.ref 119) (mem s++ex)=some (vi (ah (cL s))))(Rr:aO (.ref 119) ((mem s++ex).push (aj (Ly s x)))=some (vi (ah (cL s)))):
  i9 (n+2) (.aA 8) (aY .aK 17).body [8] (.ref 119) (vi (ah (cL s))) (.int x) (stA e b) (mem s++ex) (stA e (oq s (b,ex) x).1) (mem s++(oq s (b,ex) x).2):=by
 have hm:=CG s hx;have hw:=mP n s (Ly s x) ex;have hg:=akc (n+2) s e x b hm ex hi;unfold oq nX;by_cases c:b<(s.kn x).mt
 ·rw[aG c,aG c,←Ud]
  show i9 _ _ _ _ _ _ _ _ _ _ ((mem s++ex).push (aj (Ly s x)));cases d:iG s (Ly s x) with
  |true=>
   rw[aG rfl];rw[d] at hw;have h2:item (.ref (tb I 23 x)) (.int 0) ((mem s++ex).push (aj (Ly s x)))=some (.int (s.kn x).mt):=by
    have:=vU s (ex++[aj (Ly s x)]) hm
    rwa [←Ud] at this
   exact gL (kV 0 (eY hm)<|kV 0 (vU s ex hm)<|kB 0 (eZ (aC c))<|kC 1 hg<|kC 0 hw<|kV 1 (eY hm)<|kV 0 h2<|kG 0 Rr<|kE)
  |false=>
   rw[aJ Tc];rw[d] at hw;exact gL (kV 0 (eY hm)<|kV 0 (vU s ex hm)<|kB 0 (eZ (aC c))<|kC 1 hg<|kC 0 hw<|kG 1 Rr<|kE)
 ·rw[aJ c,aJ c]
  exact gL (kV 0 (eY hm)<|kV 0 (vU s ex hm)<|kB 0 (eZ (aH c))<|kG 2 hi<|kE)
theorem iX(pre:ai)(hi:∀ex,aO (.ref 119) (mem s++(pre++ex))=some (vi (ah (cL s)))):∃g,aq (zC (n+2) (aY .aK 17) (stA e 0) (.ref 119) (mem s++pre)) (.next (stA e (gW s))) (mem s++(pre++g)):=by
 have h:=rO.nj (n:=n+2) (t:= .aA 8) (v:= .ref 119) (body:=(aY .aK 17).body) (bf:=[8]) (c:=V.int) (l:=ah (cL s)) (a:=((0:Int),pre)) (E:= λa:Int×ai=>stA e a.1) (M:= λa=>mem s++a.2) (step:=oq s) (I:= λa xs=>(∃g,a.2=pre++g)∧∀x∈xs,x∈ah (cL s)) (by have:=hi [];rwa [UU] at this) ⟨⟨[],(UU _).symm⟩,λ_ h=>h⟩ (λ_=>rfl) λa x xs ⟨⟨g,hg⟩,hx⟩=>by
  obtain⟨b,ex⟩:=a;cases hg;exact⟨⟨vB s pre [x] b g,λy hy=>hx y (S0 _ hy)⟩,Kz n s e x b (hx x SI) (pre++g) (hi g) (by
   have:=hi (g++[aj (Ly s x)])
   rwa [←Ud,←Ud] at this)⟩
 obtain⟨g,hg⟩:=vB s pre (ah (cL s)) 0 [];rw[UU] at hg;refine⟨g,?_⟩;rw[←hg];have q:=ER s (ah (cL s)) (0,pre);unfold gW;rw[←q];exact h
noncomputable abbrev acE:E:=match aY .aK 19 with
 |.cO (.cmp _ _ (.call _ (.zc _ (.zc e _)))) _ _=>e
 |_=> .stuck
noncomputable def acB(x:Int):Bool:=(s.kn x).ac
theorem Cj(ex:ai)(hi:aO (.ref 119) (mem s++ex)=some (vi (ah (cL s)))):aq (vM n acE (stA e b) (.ref 119) (mem s++ex)) (.ref (mem s++ex).next) ((mem s++ex).push (aj ((ah (cL s)).filter (acB s)))):=by
 have h:=pq.zp (n:=n) (t:= .aA 30) (v:= .ref 119) (cs:=acE.cs) (el:= .zv 30) (env:=stA e b) (m:=mem s++ex) (c:=V.int) (l:=ah (cL s)) (g:= λy=>if(acB s) y=true then some y else none) hi (yN s) λy hy=>by
  have hy:=CG s hy;have ha:=ahn s ex hy;unfold acB;cases c:(s.kn y).ac with
  |true=>
   rw[c] at ha;exact gC (kV 0 (eY hy)<|kV 0 ha<|kG 1 hi<|kE)
  |false=>
   rw[c] at ha;exact gC (kV 0 (eY hy)<|kV 0 ha<|kG 1 hi<|kE)
 rw[ku] at h;exact h
end
end
section
theorem QK{l:List Int}(h:Up l):aB l=l:=by
 induction l with
 |nil=>rfl
 |cons x l ih=>
  have h':=Vk.mp h;show b8 x (aB l)=_;rw[ih h'.2];cases l with
  |nil=>rfl
  |cons y l=>exact aG (UQ (h'.1 y SI))
theorem RO(q:Int→Bool)(A:Nat→Nat)(k a:Nat)(M:ai)(g:b7 [(a,.dict .int (jA q A k))] M):eT (.ref a) M=.ok (.ref M.next) (M.push (aj (ah q))):=by unfold eT;show(M.get a).bind _=_;rw[IG g rfl];show(jx ((jA q A k).map (·.1))).bind _=_;rw[show(jA q A k).map (·.1)=vi (ah q) from by unfold jA;rw[T4];rfl,m9];have e:=QK (sd q);show aZ _ _=_;rw[e];exact aG (Sz (cQ q) (by decide))
theorem viA(a b:List Int):vi a++vi b=vi (a++b):=TA.symm
theorem Mr{a b:List Int}(h:(a++b).length<64):(vi a).length+(vi b).length<ay:=by rw[Sy,Sy,←S4];exact SM h (by decide)
section
variable(n:Nat)
theorem av0(a b l x:List Int)(ca:Bool)(h:(a++b).length<64):aq (aE (n+2) .f9 [.ref 0] [dJ 1 2 3 4 ca,aj a,aj b,aj l,aj x]) (.ref 5) [dJ 1 2 3 4 ca,aj a,aj b,aj l,aj x,aj (zG (a++b))]:=
 gN 6 rfl (eO (zG (a++b))) rfl (Hi 2 (Mr h) (viA a b)<|jE 0 (pX n (a++b) h (ai.next [dJ 1 2 3 4 ca,aj a,aj b,aj l,aj x]))<|gZ 0)
theorem ajB(a b l x:List Int)(ca:Bool)(h:(a++b).length<64)(p q r s t:Nat)(hn:wk [p,q,r,s,t]=true)(M:ai)(g:b7 [(p,dJ q r s t ca),(q,aj a),(r,aj b),(s,aj l),(t,aj x)] M):aq (aE (n+2) .f9 [.ref p] M) (.ref M.next) (M.push (aj (zG (a++b)))):=
 rM (av0 n a b l x ca h) (Em.of g hn (ec rfl (ec (az _ a) (ec (az _ b) (ec (az _ l) (ec (az _ x) rfl))))) rfl) (rP _ _)
end
section
variable(n:Nat)(s:St)
noncomputable def vm(g:Int→Option Bool)(a:Nat×Nat)(x:Int):Nat×Nat:=match g x with
 |none=>a
 |some b=>match b with
  |true=>(a.1+1,a.2)
  |false=>(a.1,a.2+1)
noncomputable def noG(g:Int→Option Bool)(i:Int):Bool:=g i==some false
theorem ahd(g:Int→Option Bool)(l:List Int):∀a,l.foldl (vm g) a=(a.1+(l.filter (kc g)).length,a.2+(l.filter (noG g)).length):=by
 induction l with
 |nil=>exactλa=>rfl
 |cons x l ih=>
  intro a;have key:∀b:Option Bool,g x=b→l.foldl (vm g) (vm g a x)=(a.1+((x::l).filter (kc g)).length,a.2+((x::l).filter (noG g)).length):= λb e=>by
   rw[ih,T6,T6];unfold vm kc noG;rw[e]
   match b with
   |none=>rfl
   |some true=>exact bk (VO · _) (Vg ..)
   |some false=>exact bk (VO _) (Vg ..)
  exact key _ rfl
theorem Gr{l:List Int}{x:Int}{a:Nat×Nat}:i9 n (.aA 3) (aY .fU 2).body [3] (.ref 112) (vi l) (.int x) [.ref 9,.int a.1,.int a.2,.af] (mem s++[aj l]) [.ref 9,.int (vm (lk s.bP) a x).1,.int (vm (lk s.bP) a x).2,.af] (mem s++[aj l]):=by
 obtain⟨g,ms⟩:=a;unfold vm;generalize e:lk s.bP x=o;have q:=lQ e
 match o with
 |none=>exact gL (kB 1 (iB q)<|kI 1 (some (vi l))<|kE)
 |some true=>exact gL (kB 1 (iB q)<|kV 2 q<|kI 2 (some (vi l))<|kE)
 |some false=>exact gL (kB 1 (iB q)<|kV 2 q<|kI 2 (some (vi l))<|kE)
theorem Li(l:List Int):aq (zC n (aY .fU 2) [.ref 9,.int 0,.int 0,.af] (.ref 112) (mem s++[aj l])) (.next [.ref 9,.int (l.filter (kc (lk s.bP))).length,.int (l.filter (noG (lk s.bP))).length,.af]) (mem s++[aj l]):=by have h:=rO.nj (n:=n) (t:= .aA 3) (v:= .ref 112) (body:=(aY .fU 2).body) (bf:=[3]) (c:=V.int) (l:=l) (a:=(0,0)) (E:= λa:Nat×Nat=>[.ref 9,.int a.1,.int a.2,.af]) (M:= λ_=>mem s++[aj l]) (step:=vm (lk s.bP)) (I:= λ_ _=>True) rfl trivial (λ_=>rfl) λa x xs _=>⟨trivial,Gr n s⟩;rw[ahd,Uq,Uq] at h;exact h
noncomputable abbrev avL:List Int:=zG (ah (aA s.av)++ah (aA s.aI))
noncomputable def CC:V:= .bJ [.int ((avL s).filter (kc (lk s.bP))).length,.int ((avL s).filter (noG (lk s.bP))).length,.int (jv (ah (aA s.av)) (ah (aA s.aI)) (lk s.bP))]
theorem P6:(ah (aA s.av)++ah (aA s.aI)).length<64:=by rw[S4];exact Sz (W7 (cQ _) (cQ _)) (by decide)
theorem k7:aq (aE (n+4) .fU [.ref 9] (mem s)) (CC s) (mem s):=
 gS rfl rfl (jE 2 (ajB (n+1) (ah (aA s.av)) (ah (aA s.aI)) (ah (two s.av)) (ah (bu s.av)) s.gV (P6 s) 13 14 15 16 17 rfl)<|kF 0 (Li (n+3) s (avL s))<|kR 3 (wN n (ah (aA s.av)) (ah (aA s.aI)) (ah (two s.av)) (ah (bu s.av)) s.gV s.bP 13 14 15 16 17 19 rfl)<|gZ 0)
theorem acS:aq (aE (n+1) .fD [.ref 9] (mem s)) (.ref (mem s).next) ((mem s).push (aj (ah (ao s)))):=
 gN 112 rfl (eO (ah (ao s))) rfl (kM 1 (RO (ao s) I 24 18)<|gZ 0)
theorem RD{n:Nat}{g:Fn}{vs:List V}{l:List V}{s:St}(ex:ai)(h:aq (aE n g vs (mem s)) (.ref (mem s).next) ((mem s).push (.list l)))(hp:∀f,V.fW f l=l)(ha:∀N,V.fW (bQ (Sw 112) N) vs=vs):aq (aE n g vs (mem s++ex)) (.ref (mem s++ex).next) ((mem s++ex).push (.list l)):=by have q:=rM h (Em.more s ex) (hp _);rw[ha] at q;exact q
theorem yE(ex:ai):aq (aE (n+1) .fD [.ref 9] (mem s++ex)) (.ref (mem s++ex).next) ((mem s++ex).push (aj (ah (ao s)))):=
 RD ex (acS n s) (λf=>rP f _) λ_=>rfl
noncomputable abbrev cmE:List V:=[.ref 9,.ref 112,.af]
theorem OG(a:List (Int×Int))(l:List Int):∀xj:Int,xj∈U6→look (.int xj) (jA (ao s) I 24)=some (.ref (tb I 24 xj))→(kindOf (.int xj)=some .int∧(oB a).length<ay)→bR (.int xj) (.int (s.kn xj).mt) (oB a)=oB (ji xj (s.kn xj).mt a)→
  i9 n (.aA 2) (aY .eL 1).body [2] (.ref 113) (vi l) (.int xj) cmE (iY xj.toNat s++[.dict .int (oB a),aj l]) cmE (iY xj.toNat s++[.dict .int (oB (ji xj (s.kn xj).mt a)),aj l]):=by
 intro xj hx g1 g2 g3;exact JN (λ_=>jj 1 g1<|qQ 1 g2 g3<|OO 0 (some (vi l))<|zF) (by clear g1 g2 g3;revert xj;exact o7 (by kernel_rfl))
noncomputable def NY:List (Int×Int):=(ah (ao s)).foldl (λa x=>ji x (s.kn x).mt a) []
theorem Rn:aq (zC n (aY .eL 1) cmE (.ref 113) (mem s++[.dict .int [],aj (ah (ao s))])) (.next cmE) (mem s++[.dict .int (oB (NY s)),aj (ah (ao s))]):=
 rO.nj (c:=V.int) (l:=ah (ao s)) (a:=([]:List (Int×Int))) (E:= λ_=>cmE) (M:= λa=>mem s++[.dict .int (oB a),aj (ah (ao s))]) (step:= λa x=>ji x (s.kn x).mt a) (I:= λa xs=>a.length+xs.length<60∧∀x∈xs,x∈ah (ao s)) rfl
  ⟨Sz (VE (cQ _) 0) (by decide),λ_ h=>h⟩ (λ_=>rfl) λa x xs ⟨h1,h2⟩=>by
  have hm:=h2 x SI;have:=pN x (s.kn x).mt a;rw[Va] at h1;refine⟨⟨by omega,λy hy=>h2 y (S0 _ hy)⟩,?_⟩;have t:=OG n s a (ah (ao s)) x (dw hm) (ny hm) (MP x (jP (SM (show a.length<60 by omega) (by decide)))) (Gg x (s.kn x).mt a);rw[eU hm] at t;exact t
noncomputable def PD:Int:=JM (ah (aA s.av)) (ah (aA s.aI)) (CU (NY s))
theorem sG:aq (aE (n+4) .eL [.ref 9] (mem s)) (.int (PD s)) (mem s):=
 gS rfl rfl (kC 1 (yE (n+2) s [.dict .int []])<|kF 0 (Rn (n+3) s)<|kR 2 (adG n (ah (aA s.av)) (ah (aA s.aI)) (ah (two s.av)) (ah (bu s.av)) s.gV (NY s) (Sz (cQ (aA s.av)) (by decide)) (Sz (cQ (aA s.aI)) (by decide)) 13 14 15 16 17 112 rfl)<|gZ 0)
end
end
section
section
variable(n:Nat)(s:St)
noncomputable abbrev qaE:List V:=[.ref 9,.ref 112,.af,.af]
noncomputable def tX(a:List (Int×Bool))(x:Int):List (Int×Bool):=if two s.av x=true then a else ji x (s.kn x).ac a
theorem LX(a:List (Int×Bool))(l:List Int):∀xj:Int,xj∈U6→look (.int xj) (jA (ao s) I 24)=some (.ref (tb I 24 xj))→some (two s.av xj)=some true→
  i9 n (.aA 2) (aY .cE 1).body [2,3] (.ref 113) (vi l) (.int xj) qaE (iY xj.toNat s++[.dict .int (jM a),aj l]) qaE (iY xj.toNat s++[.dict .int (jM a),aj l]):=by
 intro xj hx g1 g2;exact JN (λ_=>jj 1 g1<|j8 1 g2<|OO 1 (some (vi l))<|zF) (by clear g1 g2;revert xj;exact o7 (by kernel_rfl))
theorem LC(a:List (Int×Bool))(l:List Int):∀xj:Int,xj∈U6→look (.int xj) (jA (ao s) I 24)=some (.ref (tb I 24 xj))→some (two s.av xj)=some false→(kindOf (.int xj)=some .int∧(jM a).length<ay)→bR (.int xj) (.bool (s.kn xj).ac) (jM a)=jM (ji xj (s.kn xj).ac a)→
  i9 n (.aA 2) (aY .cE 1).body [2,3] (.ref 113) (vi l) (.int xj) qaE (iY xj.toNat s++[.dict .int (jM a),aj l]) qaE (iY xj.toNat s++[.dict .int (jM (ji xj (s.kn xj).ac a)),aj l]):=by
 intro xj hx g1 g2 g3 g4;exact JN (λ_=>jj 1 g1<|j8 1 g2<|qQ 2 g3 g4<|OO 0 (some (vi l))<|zF) (by clear g1 g2 g3 g4;revert xj;exact o7 (by kernel_rfl))
noncomputable def DQ:List (Int×Bool):=(ah (ao s)).foldl (tX s) []
theorem Kd(a:List (Int×Bool))(x:Int):(tX s a x).length≤a.length+1:=by
 unfold tX
 split
 ·exact TM _
 ·exact pN ..
theorem aeS:aq (zC n (aY .cE 1) qaE (.ref 113) (mem s++[.dict .int [],aj (ah (ao s))])) (.next qaE) (mem s++[.dict .int (jM (DQ s)),aj (ah (ao s))]):=
 rO.nj (c:=V.int) (l:=ah (ao s)) (a:=([]:List (Int×Bool))) (E:= λ_=>qaE) (M:= λa=>mem s++[.dict .int (jM a),aj (ah (ao s))]) (step:=tX s) (I:= λa xs=>a.length+xs.length<60∧∀x∈xs,x∈ah (ao s)) rfl
  ⟨Sz (VE (cQ _) 0) (by decide),λ_ h=>h⟩ (λ_=>rfl) λa x xs ⟨h1,h2⟩=>by
  have hm:=h2 x SI;have:=Kd s a x;rw[Va] at h1;refine⟨⟨by omega,λy hy=>h2 y (S0 _ hy)⟩,?_⟩;unfold tX;cases c:two s.av x with
  |true=>
   have t:=LX n s a (ah (ao s)) x (dw hm) (ny hm) (sj c);rw[eU hm] at t;exact t
  |false=>
   have t:=LC n s a (ah (ao s)) x (dw hm) (ny hm) (sj c) (MP x (jP (SM (show a.length<60 by omega) (by decide)))) (rV x (s.kn x).ac a);rw[eU hm] at t;exact t
noncomputable def O4:Bool:=decide (jv (ah (aA s.av)) (ah (aA s.aI)) (lk (DQ s))=3)
theorem BV:aq (aE (n+4) .cE [.ref 9] (mem s)) (.bool (O4 s)) (mem s):=
 gS rfl rfl (kC 1 (yE (n+2) s [.dict .int []])<|kF 0 (aeS (n+3) s)<|kR 2 (wN n (ah (aA s.av)) (ah (aA s.aI)) (ah (two s.av)) (ah (bu s.av)) s.gV (DQ s) 13 14 15 16 17 112 rfl)<|kB 0 (aT (i:=jv (ah (aA s.av)) (ah (aA s.aI)) (lk (DQ s))) (j:=3) rfl)<|gZ 0)
noncomputable def uc:Bool:=decide (((vi (ah (aA s.av))).length:Int)=1)&& !decide (0<((vi (ah (aA s.aI))).length:Int))
theorem aew:aq (aE (n+2) .iQ [.ref 9] (mem s)) (.bool (uc s)) (mem s):=by
 unfold uc;by_cases c:((vi (ah (aA s.av))).length:Int)=1
 ·rw[aC c]
  by_cases d:0<((vi (ah (aA s.aI))).length:Int)
  ·rw[aC d]
   exact gS rfl rfl (kB 3 (aT (aC c))<|kB 6 (eZ (aC d))<|kS 0 (V.bool true) (mem s) rfl<|gZ 1)
  ·rw[aH d]
   exact gS rfl rfl (kB 3 (aT (aC c))<|kB 6 (eZ (aH d))<|kS 0 (V.bool false) (mem s) rfl<|gZ 1)
 ·rw[aH c]
  exact gS rfl rfl (kB 3 (aT (aH c))<|gZ 1)
end
end
section
section
variable(n:Nat)(s:St)
noncomputable def Hy:Int:=if iG s (bV s true)=true then 3 else if iG s ((ah (cL s)).filter (AD s))=true then 1 else 2
structure jT:Prop where
 sC:CC s=.bJ [.int (vi (bV s true)).length,.int (vi (bV s false)).length,.int (Hy s)]
 Qk:PD s=gW s
 C9:O4 s=iG s ((ah (cL s)).filter (acB s))
noncomputable abbrev cfT:V:=cfV (ah (aA s.av)) (ah (aA s.aI)) (ah (two s.av)) (ah (bu s.av)) s.gV
noncomputable abbrev fF:O:= .list [.bJ (vi (ah (aA s.av))),.bJ (vi (ah (aA s.aI))),.bJ (vi (ah (two s.av))),.bJ (vi (ah (bu s.av))),.bool s.gV]
noncomputable abbrev cD:ai:=[aj (ah (aA s.av)),aj (ah (aA s.aI)),aj (ah (two s.av)),aj (ah (bu s.av)),fF s,aj (ah (ao s)),aj (ah (ao s)),aj (ah (cL s)),aj (bV s true),aj (bV s false)]
theorem Hl(a b l x:List Int)(ca:Bool):V.bT 8 (cfV a b l x ca) (cfV a b l x ca)=true:=by show(V.bT 7 (.bJ (vi a)) (.bJ (vi a))&&(V.bT 7 (.bJ (vi b)) (.bJ (vi b))&&(V.bT 7 (.bJ (vi l)) (.bJ (vi l))&&(V.bT 7 (.bJ (vi x)) (.bJ (vi x))&&true))))=true;rw[C4,C4,C4,C4];rfl
theorem Bd(l:List V)(h:∀v∈l,V.bT 8 v v=true):(aZ (((l.zip l).all λp=>V.bT 8 p.1 p.2)=true) (decide (l=l))).map (! ·)=some false:=by rw[aZ,aG (Fy 8 l h),aC rfl];rfl
theorem F7{l:List V}(h:l.length<ay):(aZ (l.length<ay) l.length).map (λn:Nat=>V.int (n:Int))=some (.int (l.length:Int)):=by rw[aZ,aG h];rfl
theorem HE{l:List V}(h:l=[]):om (.bJ l) (.bJ []) []=some true:=by rw[h];rfl
theorem Fw{l:List V}(h:l≠[]):om (.bJ l) (.bJ []) []=some false:=by
 cases l with
 |nil=>exact absurd rfl h
 |cons v l=>rfl
theorem sR(b:Bool):(om (.bool b) (.bool b) []).map (! ·)=some false:=by cases b<;>rfl
noncomputable abbrev je:List Int:=(ah (cL s)).filter (AD s)
noncomputable abbrev uW:List Int:=(ah (cL s)).filter (acB s)
theorem n7(ex:ai)(o:O):aq (aE (n+2) .iQ [.ref 9] ((mem s++ex).push o)) (.bool (uc s)) ((mem s++ex).push o):=by
 have h:=cJ (ex++[o]) (aew n s) rfl λ_=>rfl
 rwa [←Ud] at h
theorem Pc(o:jT s)(c:¬((vi (ah (aA s.av))).length:Int)=1):aq (aE (n+5) .aK [.ref 0] (mem s)) (.bool true) (mem s):=by
 have h0:=Oi (n+4) s [];have h1:=NN (n+4) s [aj (ah (aA s.av))];have h2:=NG (n+4) s [aj (ah (aA s.av)),aj (ah (aA s.aI))];have h3:=Pk (n+4) s [aj (ah (aA s.av)),aj (ah (aA s.aI)),aj (ah (two s.av))];have hr:=F3 (n+3) (ah (aA s.av)) (ah (aA s.aI)) (ah (two s.av)) (ah (bu s.av)) s.gV 13 14 15 16 17 rfl;have hc:=mh (cfT s) (Hl ..);have h4:=MT (n+4) s [aj (ah (aA s.av)),aj (ah (aA s.aI)),aj (ah (two s.av)),aj (ah (bu s.av)),fF s];have h5:=yE (n+3) s [aj (ah (aA s.av)),aj (ah (aA s.aI)),aj (ah (two s.av)),aj (ah (bu s.av)),fF s,aj (ah (ao s))];have h6:=x7 (n+1) s [aj (ah (aA s.av)),aj (ah (aA s.aI)),aj (ah (two s.av)),aj (ah (bu s.av)),fF s,aj (ah (ao s)),aj (ah (ao s))] λ_=>rfl;have h7:=Oe (n+4) s [aj (ah (aA s.av)),aj (ah (aA s.aI)),aj (ah (two s.av)),aj (ah (bu s.av)),fF s,aj (ah (ao s)),aj (ah (ao s))];have h8:=PA (n+4) s [aj (ah (aA s.av)),aj (ah (aA s.aI)),aj (ah (two s.av)),aj (ah (bu s.av)),fF s,aj (ah (ao s)),aj (ah (ao s)),aj (ah (cL s))] rfl;have h9:=adD (n+4) s [aj (ah (aA s.av)),aj (ah (aA s.aI)),aj (ah (two s.av)),aj (ah (bu s.av)),fF s,aj (ah (ao s)),aj (ah (ao s)),aj (ah (cL s)),aj (bV s true)] rfl;have hd:=Bd (vi (ah (ao s))) λv hv=>by obtain⟨i,_,rfl⟩:=SW.mp hv;rfl
 have hd:=Bd (vi (ah (ao s))) λv hv=>by obtain⟨i,_,rfl⟩:=SW.mp hv;rfl
 have hl:=F7 (l:=vi (ah (aA s.av))) (jP (Sz (cQ (aA s.av)) (by decide)));have hw:=ou (n+2) s (bV s true) 120 rfl;have he:Hy s=if iG s (bV s true)=true then 3 else if iG s (je s)=true then 1 else 2:=rfl;have hz:uc s=false:=by unfold uc;rw[aH c];rfl
 cases w1:iG s (bV s true) with
 |true=>
  rw[w1,aG rfl] at he;rw[show gi (ah (aA s.av)) (ah (aA s.aI)) (pG (bV s true))=true from w1] at hw;obtain⟨g,hb⟩:=iX (n+2) s 3 (cD s) λ_=>rfl;have hx:=cJ (cD s) (k7 n s) rfl λ_=>rfl;rw[o.sC,he] at hx;have hm:=cJ (cD s++g) (sG n s) rfl λ_=>rfl;rw[o.Qk] at hm;have hq:=cJ (cD s++g) (BV n s) rfl λ_=>rfl;rw[o.C9] at hq;have ha:=Cj (n+4) s 3 (gW s) (cD s++g) rfl;have hv:=mP (n+2) s (uW s) (cD s++g);have hs:=n7 (n+2) s (cD s++g) (aj (uW s));rw[hz] at hs;exact gS rfl rfl (kC 4 h0<|kC 1 h1<|kC 1 h2<|kC 1 h3<|kR 5 hr<|kB 1 hc<|kC 2 h4<|kC 1 h5<|kB 0 hd<|kF 1 h6<|kC 0 h7<|kC 0 h8<|kC 0 h9<|kR 0 hw<|kC 2 hx<|kB 2 (mh (.bJ [.int (vi (bV s true)).length,.int (vi (bV s false)).length,.int 3]) rfl)<|kF 1 hb<|kC 1 hm<|kB 0 (qL (aC (rfl:gW s=gW s)))<|kC 2 hq<|kC 0 ha<|kC 0 hv<|kB 0 (sR (iG s (uW s)))<|kC 2 hs<|kV 1 hl<|kB 0 (aT (aH c))<|gZ 2)
 |false=>
  rw[w1,aJ Tc] at he;rw[show gi (ah (aA s.av)) (ah (aA s.aI)) (pG (bV s true))=false from w1] at hw;have hn:=acI (n+4) s (cD s) rfl rfl;have hy:=ou (n+2) s (je s) 122 rfl;cases w2:iG s (je s) with
  |true=>
   rw[w2,aG rfl] at he;rw[show gi (ah (aA s.av)) (ah (aA s.aI)) (pG (je s))=true from w2] at hy;obtain⟨g,hb⟩:=iX (n+2) s 1 ((cD s++[aj (je s)])) λ_=>rfl;have hx:=cJ ((cD s++[aj (je s)])) (k7 n s) rfl λ_=>rfl;rw[o.sC,he] at hx;have hm:=cJ ((cD s++[aj (je s)])++g) (sG n s) rfl λ_=>rfl;rw[o.Qk] at hm;have hq:=cJ ((cD s++[aj (je s)])++g) (BV n s) rfl λ_=>rfl;rw[o.C9] at hq;have ha:=Cj (n+4) s 1 (gW s) ((cD s++[aj (je s)])++g) rfl;have hv:=mP (n+2) s (uW s) ((cD s++[aj (je s)])++g);have hs:=n7 (n+2) s ((cD s++[aj (je s)])++g) (aj (uW s));rw[hz] at hs;exact gS rfl rfl (kC 4 h0<|kC 1 h1<|kC 1 h2<|kC 1 h3<|kR 5 hr<|kB 1 hc<|kC 2 h4<|kC 1 h5<|kB 0 hd<|kF 1 h6<|kC 0 h7<|kC 0 h8<|kC 0 h9<|kR 0 hw<|kC 1 hn<|kR 0 hy<|kC 3 hx<|kB 2 (mh (.bJ [.int (vi (bV s true)).length,.int (vi (bV s false)).length,.int 1]) rfl)<|kF 1 hb<|kC 1 hm<|kB 0 (qL (aC (rfl:gW s=gW s)))<|kC 2 hq<|kC 0 ha<|kC 0 hv<|kB 0 (sR (iG s (uW s)))<|kC 2 hs<|kV 1 hl<|kB 0 (aT (aH c))<|gZ 2)
  |false=>
   rw[w2,aJ Tc] at he;rw[show gi (ah (aA s.av)) (ah (aA s.aI)) (pG (je s))=false from w2] at hy;obtain⟨g,hb⟩:=iX (n+2) s 2 ((cD s++[aj (je s)])) λ_=>rfl;have hx:=cJ ((cD s++[aj (je s)])) (k7 n s) rfl λ_=>rfl;rw[o.sC,he] at hx;have hm:=cJ ((cD s++[aj (je s)])++g) (sG n s) rfl λ_=>rfl;rw[o.Qk] at hm;have hq:=cJ ((cD s++[aj (je s)])++g) (BV n s) rfl λ_=>rfl;rw[o.C9] at hq;have ha:=Cj (n+4) s 2 (gW s) ((cD s++[aj (je s)])++g) rfl;have hv:=mP (n+2) s (uW s) ((cD s++[aj (je s)])++g);have hs:=n7 (n+2) s ((cD s++[aj (je s)])++g) (aj (uW s));rw[hz] at hs;exact gS rfl rfl (kC 4 h0<|kC 1 h1<|kC 1 h2<|kC 1 h3<|kR 5 hr<|kB 1 hc<|kC 2 h4<|kC 1 h5<|kB 0 hd<|kF 1 h6<|kC 0 h7<|kC 0 h8<|kC 0 h9<|kR 0 hw<|kC 1 hn<|kR 0 hy<|kC 3 hx<|kB 2 (mh (.bJ [.int (vi (bV s true)).length,.int (vi (bV s false)).length,.int 2]) rfl)<|kF 1 hb<|kC 1 hm<|kB 0 (qL (aC (rfl:gW s=gW s)))<|kC 2 hq<|kC 0 ha<|kC 0 hv<|kB 0 (sR (iG s (uW s)))<|kC 2 hs<|kV 1 hl<|kB 0 (aT (aH c))<|gZ 2)
theorem Mi(o:jT s)(c:((vi (ah (aA s.av))).length:Int)=1)(d:vi (ah (aA s.aI))=[]):aq (aE (n+5) .aK [.ref 0] (mem s)) (.bool true) (mem s):=by
 have h0:=Oi (n+4) s [];have h1:=NN (n+4) s [aj (ah (aA s.av))];have h2:=NG (n+4) s [aj (ah (aA s.av)),aj (ah (aA s.aI))];have h3:=Pk (n+4) s [aj (ah (aA s.av)),aj (ah (aA s.aI)),aj (ah (two s.av))];have hr:=F3 (n+3) (ah (aA s.av)) (ah (aA s.aI)) (ah (two s.av)) (ah (bu s.av)) s.gV 13 14 15 16 17 rfl;have hc:=mh (cfT s) (Hl ..);have h4:=MT (n+4) s [aj (ah (aA s.av)),aj (ah (aA s.aI)),aj (ah (two s.av)),aj (ah (bu s.av)),fF s];have h5:=yE (n+3) s [aj (ah (aA s.av)),aj (ah (aA s.aI)),aj (ah (two s.av)),aj (ah (bu s.av)),fF s,aj (ah (ao s))];have h6:=x7 (n+1) s [aj (ah (aA s.av)),aj (ah (aA s.aI)),aj (ah (two s.av)),aj (ah (bu s.av)),fF s,aj (ah (ao s)),aj (ah (ao s))] λ_=>rfl;have h7:=Oe (n+4) s [aj (ah (aA s.av)),aj (ah (aA s.aI)),aj (ah (two s.av)),aj (ah (bu s.av)),fF s,aj (ah (ao s)),aj (ah (ao s))];have h8:=PA (n+4) s [aj (ah (aA s.av)),aj (ah (aA s.aI)),aj (ah (two s.av)),aj (ah (bu s.av)),fF s,aj (ah (ao s)),aj (ah (ao s)),aj (ah (cL s))] rfl;have h9:=adD (n+4) s [aj (ah (aA s.av)),aj (ah (aA s.aI)),aj (ah (two s.av)),aj (ah (bu s.av)),fF s,aj (ah (ao s)),aj (ah (ao s)),aj (ah (cL s)),aj (bV s true)] rfl;have hd:=Bd (vi (ah (ao s))) λv hv=>by obtain⟨i,_,rfl⟩:=SW.mp hv;rfl
 have hd:=Bd (vi (ah (ao s))) λv hv=>by obtain⟨i,_,rfl⟩:=SW.mp hv;rfl
 have hl:=F7 (l:=vi (ah (aA s.av))) (jP (Sz (cQ (aA s.av)) (by decide)));have hw:=ou (n+2) s (bV s true) 120 rfl;have he:Hy s=if iG s (bV s true)=true then 3 else if iG s (je s)=true then 1 else 2:=rfl;have hz:uc s=true:=by unfold uc;rw[aC c,d];rfl
 cases w1:iG s (bV s true) with
 |true=>
  rw[w1,aG rfl] at he;rw[show gi (ah (aA s.av)) (ah (aA s.aI)) (pG (bV s true))=true from w1] at hw;obtain⟨g,hb⟩:=iX (n+2) s 3 (cD s) λ_=>rfl;have hx:=cJ (cD s) (k7 n s) rfl λ_=>rfl;rw[o.sC,he] at hx;have hm:=cJ (cD s++g) (sG n s) rfl λ_=>rfl;rw[o.Qk] at hm;have hq:=cJ (cD s++g) (BV n s) rfl λ_=>rfl;rw[o.C9] at hq;have ha:=Cj (n+4) s 3 (gW s) (cD s++g) rfl;have hv:=mP (n+2) s (uW s) (cD s++g);have hs:=n7 (n+2) s (cD s++g) (aj (uW s));rw[hz] at hs;exact gS rfl rfl (kC 4 h0<|kC 1 h1<|kC 1 h2<|kC 1 h3<|kR 5 hr<|kB 1 hc<|kC 2 h4<|kC 1 h5<|kB 0 hd<|kF 1 h6<|kC 0 h7<|kC 0 h8<|kC 0 h9<|kR 0 hw<|kC 2 hx<|kB 2 (mh (.bJ [.int (vi (bV s true)).length,.int (vi (bV s false)).length,.int 3]) rfl)<|kF 1 hb<|kC 1 hm<|kB 0 (qL (aC (rfl:gW s=gW s)))<|kC 2 hq<|kC 0 ha<|kC 0 hv<|kB 0 (sR (iG s (uW s)))<|kC 2 hs<|kV 1 hl<|kB 0 (aT (aC c))<|kB 2 (HE d)<|gZ 1)
 |false=>
  rw[w1,aJ Tc] at he;rw[show gi (ah (aA s.av)) (ah (aA s.aI)) (pG (bV s true))=false from w1] at hw;have hn:=acI (n+4) s (cD s) rfl rfl;have hy:=ou (n+2) s (je s) 122 rfl;cases w2:iG s (je s) with
  |true=>
   rw[w2,aG rfl] at he;rw[show gi (ah (aA s.av)) (ah (aA s.aI)) (pG (je s))=true from w2] at hy;obtain⟨g,hb⟩:=iX (n+2) s 1 ((cD s++[aj (je s)])) λ_=>rfl;have hx:=cJ ((cD s++[aj (je s)])) (k7 n s) rfl λ_=>rfl;rw[o.sC,he] at hx;have hm:=cJ ((cD s++[aj (je s)])++g) (sG n s) rfl λ_=>rfl;rw[o.Qk] at hm;have hq:=cJ ((cD s++[aj (je s)])++g) (BV n s) rfl λ_=>rfl;rw[o.C9] at hq;have ha:=Cj (n+4) s 1 (gW s) ((cD s++[aj (je s)])++g) rfl;have hv:=mP (n+2) s (uW s) ((cD s++[aj (je s)])++g);have hs:=n7 (n+2) s ((cD s++[aj (je s)])++g) (aj (uW s));rw[hz] at hs;exact gS rfl rfl (kC 4 h0<|kC 1 h1<|kC 1 h2<|kC 1 h3<|kR 5 hr<|kB 1 hc<|kC 2 h4<|kC 1 h5<|kB 0 hd<|kF 1 h6<|kC 0 h7<|kC 0 h8<|kC 0 h9<|kR 0 hw<|kC 1 hn<|kR 0 hy<|kC 3 hx<|kB 2 (mh (.bJ [.int (vi (bV s true)).length,.int (vi (bV s false)).length,.int 1]) rfl)<|kF 1 hb<|kC 1 hm<|kB 0 (qL (aC (rfl:gW s=gW s)))<|kC 2 hq<|kC 0 ha<|kC 0 hv<|kB 0 (sR (iG s (uW s)))<|kC 2 hs<|kV 1 hl<|kB 0 (aT (aC c))<|kB 2 (HE d)<|gZ 1)
  |false=>
   rw[w2,aJ Tc] at he;rw[show gi (ah (aA s.av)) (ah (aA s.aI)) (pG (je s))=false from w2] at hy;obtain⟨g,hb⟩:=iX (n+2) s 2 ((cD s++[aj (je s)])) λ_=>rfl;have hx:=cJ ((cD s++[aj (je s)])) (k7 n s) rfl λ_=>rfl;rw[o.sC,he] at hx;have hm:=cJ ((cD s++[aj (je s)])++g) (sG n s) rfl λ_=>rfl;rw[o.Qk] at hm;have hq:=cJ ((cD s++[aj (je s)])++g) (BV n s) rfl λ_=>rfl;rw[o.C9] at hq;have ha:=Cj (n+4) s 2 (gW s) ((cD s++[aj (je s)])++g) rfl;have hv:=mP (n+2) s (uW s) ((cD s++[aj (je s)])++g);have hs:=n7 (n+2) s ((cD s++[aj (je s)])++g) (aj (uW s));rw[hz] at hs;exact gS rfl rfl (kC 4 h0<|kC 1 h1<|kC 1 h2<|kC 1 h3<|kR 5 hr<|kB 1 hc<|kC 2 h4<|kC 1 h5<|kB 0 hd<|kF 1 h6<|kC 0 h7<|kC 0 h8<|kC 0 h9<|kR 0 hw<|kC 1 hn<|kR 0 hy<|kC 3 hx<|kB 2 (mh (.bJ [.int (vi (bV s true)).length,.int (vi (bV s false)).length,.int 2]) rfl)<|kF 1 hb<|kC 1 hm<|kB 0 (qL (aC (rfl:gW s=gW s)))<|kC 2 hq<|kC 0 ha<|kC 0 hv<|kB 0 (sR (iG s (uW s)))<|kC 2 hs<|kV 1 hl<|kB 0 (aT (aC c))<|kB 2 (HE d)<|gZ 1)
theorem NW(o:jT s)(c:((vi (ah (aA s.av))).length:Int)=1)(d:vi (ah (aA s.aI))≠[]):aq (aE (n+5) .aK [.ref 0] (mem s)) (.bool true) (mem s):=by
 have h0:=Oi (n+4) s [];have h1:=NN (n+4) s [aj (ah (aA s.av))];have h2:=NG (n+4) s [aj (ah (aA s.av)),aj (ah (aA s.aI))];have h3:=Pk (n+4) s [aj (ah (aA s.av)),aj (ah (aA s.aI)),aj (ah (two s.av))];have hr:=F3 (n+3) (ah (aA s.av)) (ah (aA s.aI)) (ah (two s.av)) (ah (bu s.av)) s.gV 13 14 15 16 17 rfl;have hc:=mh (cfT s) (Hl ..);have h4:=MT (n+4) s [aj (ah (aA s.av)),aj (ah (aA s.aI)),aj (ah (two s.av)),aj (ah (bu s.av)),fF s];have h5:=yE (n+3) s [aj (ah (aA s.av)),aj (ah (aA s.aI)),aj (ah (two s.av)),aj (ah (bu s.av)),fF s,aj (ah (ao s))];have h6:=x7 (n+1) s [aj (ah (aA s.av)),aj (ah (aA s.aI)),aj (ah (two s.av)),aj (ah (bu s.av)),fF s,aj (ah (ao s)),aj (ah (ao s))] λ_=>rfl;have h7:=Oe (n+4) s [aj (ah (aA s.av)),aj (ah (aA s.aI)),aj (ah (two s.av)),aj (ah (bu s.av)),fF s,aj (ah (ao s)),aj (ah (ao s))];have h8:=PA (n+4) s [aj (ah (aA s.av)),aj (ah (aA s.aI)),aj (ah (two s.av)),aj (ah (bu s.av)),fF s,aj (ah (ao s)),aj (ah (ao s)),aj (ah (cL s))] rfl;have h9:=adD (n+4) s [aj (ah (aA s.av)),aj (ah (aA s.aI)),aj (ah (two s.av)),aj (ah (bu s.av)),fF s,aj (ah (ao s)),aj (ah (ao s)),aj (ah (cL s)),aj (bV s true)] rfl;have hd:=Bd (vi (ah (ao s))) λv hv=>by obtain⟨i,_,rfl⟩:=SW.mp hv;rfl
 have hd:=Bd (vi (ah (ao s))) λv hv=>by obtain⟨i,_,rfl⟩:=SW.mp hv;rfl
 have hl:=F7 (l:=vi (ah (aA s.av))) (jP (Sz (cQ (aA s.av)) (by decide)));have hw:=ou (n+2) s (bV s true) 120 rfl;have he:Hy s=if iG s (bV s true)=true then 3 else if iG s (je s)=true then 1 else 2:=rfl;have hz:uc s=false:=by unfold uc;rw[aC c,aC (Xh.mpr (Vy.mpr d))];rfl
 cases w1:iG s (bV s true) with
 |true=>
  rw[w1,aG rfl] at he;rw[show gi (ah (aA s.av)) (ah (aA s.aI)) (pG (bV s true))=true from w1] at hw;obtain⟨g,hb⟩:=iX (n+2) s 3 (cD s) λ_=>rfl;have hx:=cJ (cD s) (k7 n s) rfl λ_=>rfl;rw[o.sC,he] at hx;have hm:=cJ (cD s++g) (sG n s) rfl λ_=>rfl;rw[o.Qk] at hm;have hq:=cJ (cD s++g) (BV n s) rfl λ_=>rfl;rw[o.C9] at hq;have ha:=Cj (n+4) s 3 (gW s) (cD s++g) rfl;have hv:=mP (n+2) s (uW s) (cD s++g);have hs:=n7 (n+2) s (cD s++g) (aj (uW s));rw[hz] at hs;exact gS rfl rfl (kC 4 h0<|kC 1 h1<|kC 1 h2<|kC 1 h3<|kR 5 hr<|kB 1 hc<|kC 2 h4<|kC 1 h5<|kB 0 hd<|kF 1 h6<|kC 0 h7<|kC 0 h8<|kC 0 h9<|kR 0 hw<|kC 2 hx<|kB 2 (mh (.bJ [.int (vi (bV s true)).length,.int (vi (bV s false)).length,.int 3]) rfl)<|kF 1 hb<|kC 1 hm<|kB 0 (qL (aC (rfl:gW s=gW s)))<|kC 2 hq<|kC 0 ha<|kC 0 hv<|kB 0 (sR (iG s (uW s)))<|kC 2 hs<|kV 1 hl<|kB 0 (aT (aC c))<|kB 2 (Fw d)<|gZ 1)
 |false=>
  rw[w1,aJ Tc] at he;rw[show gi (ah (aA s.av)) (ah (aA s.aI)) (pG (bV s true))=false from w1] at hw;have hn:=acI (n+4) s (cD s) rfl rfl;have hy:=ou (n+2) s (je s) 122 rfl;cases w2:iG s (je s) with
  |true=>
   rw[w2,aG rfl] at he;rw[show gi (ah (aA s.av)) (ah (aA s.aI)) (pG (je s))=true from w2] at hy;obtain⟨g,hb⟩:=iX (n+2) s 1 ((cD s++[aj (je s)])) λ_=>rfl;have hx:=cJ ((cD s++[aj (je s)])) (k7 n s) rfl λ_=>rfl;rw[o.sC,he] at hx;have hm:=cJ ((cD s++[aj (je s)])++g) (sG n s) rfl λ_=>rfl;rw[o.Qk] at hm;have hq:=cJ ((cD s++[aj (je s)])++g) (BV n s) rfl λ_=>rfl;rw[o.C9] at hq;have ha:=Cj (n+4) s 1 (gW s) ((cD s++[aj (je s)])++g) rfl;have hv:=mP (n+2) s (uW s) ((cD s++[aj (je s)])++g);have hs:=n7 (n+2) s ((cD s++[aj (je s)])++g) (aj (uW s));rw[hz] at hs;exact gS rfl rfl (kC 4 h0<|kC 1 h1<|kC 1 h2<|kC 1 h3<|kR 5 hr<|kB 1 hc<|kC 2 h4<|kC 1 h5<|kB 0 hd<|kF 1 h6<|kC 0 h7<|kC 0 h8<|kC 0 h9<|kR 0 hw<|kC 1 hn<|kR 0 hy<|kC 3 hx<|kB 2 (mh (.bJ [.int (vi (bV s true)).length,.int (vi (bV s false)).length,.int 1]) rfl)<|kF 1 hb<|kC 1 hm<|kB 0 (qL (aC (rfl:gW s=gW s)))<|kC 2 hq<|kC 0 ha<|kC 0 hv<|kB 0 (sR (iG s (uW s)))<|kC 2 hs<|kV 1 hl<|kB 0 (aT (aC c))<|kB 2 (Fw d)<|gZ 1)
  |false=>
   rw[w2,aJ Tc] at he;rw[show gi (ah (aA s.av)) (ah (aA s.aI)) (pG (je s))=false from w2] at hy;obtain⟨g,hb⟩:=iX (n+2) s 2 ((cD s++[aj (je s)])) λ_=>rfl;have hx:=cJ ((cD s++[aj (je s)])) (k7 n s) rfl λ_=>rfl;rw[o.sC,he] at hx;have hm:=cJ ((cD s++[aj (je s)])++g) (sG n s) rfl λ_=>rfl;rw[o.Qk] at hm;have hq:=cJ ((cD s++[aj (je s)])++g) (BV n s) rfl λ_=>rfl;rw[o.C9] at hq;have ha:=Cj (n+4) s 2 (gW s) ((cD s++[aj (je s)])++g) rfl;have hv:=mP (n+2) s (uW s) ((cD s++[aj (je s)])++g);have hs:=n7 (n+2) s ((cD s++[aj (je s)])++g) (aj (uW s));rw[hz] at hs;exact gS rfl rfl (kC 4 h0<|kC 1 h1<|kC 1 h2<|kC 1 h3<|kR 5 hr<|kB 1 hc<|kC 2 h4<|kC 1 h5<|kB 0 hd<|kF 1 h6<|kC 0 h7<|kC 0 h8<|kC 0 h9<|kR 0 hw<|kC 1 hn<|kR 0 hy<|kC 3 hx<|kB 2 (mh (.bJ [.int (vi (bV s true)).length,.int (vi (bV s false)).length,.int 2]) rfl)<|kF 1 hb<|kC 1 hm<|kB 0 (qL (aC (rfl:gW s=gW s)))<|kC 2 hq<|kC 0 ha<|kC 0 hv<|kB 0 (sR (iG s (uW s)))<|kC 2 hs<|kV 1 hl<|kB 0 (aT (aC c))<|kB 2 (Fw d)<|gZ 1)
theorem u6(o:jT s):aq (aE (n+5) .aK [.ref 0] (mem s)) (.bool true) (mem s):=
 if c:((vi (ah (aA s.av))).length:Int)=1 then
  if d:vi (ah (aA s.aI))=[] then Mi n s o c d else NW n s o c d
 else Pc n s o c
end
end
noncomputable def GZ(l:List Nat)(m:ai):ai:=l.foldl (λm a=>m.set a .aM) m
theorem Fj{b:Nat}:∀(l:List Nat) (m:ai),b∉l→(GZ l m)[b]? =m[b]? := λl=>by
 induction l with
 |nil=>exactλ_ _=>rfl
 |cons a l ih=>
  intro m h;have h1:a≠b:= λe=>h (e▸SI);exact(ih (m.set a .aM) λq=>h (S0 _ q)).trans (VU h1)
theorem abk{ms dW M T:ai}{f:Nat→Nat}(w:List Nat)(E:Em f ms M)(le:ms.length≤dW.length)(l2:(dW.take ms.length).map O.live=ms.map O.live)
  (hT:T.length=M.length+(dW.length-ms.length)) {os:ai} (hr:dW.map (O.bM f)=os) (hg:(os.take ms.length).map (λo=>cond o.live (some o) none)=((Sw ms.length).zip (os.take ms.length)).map λp=>cond p.2.live (T.get (f p.1)) none)
  (hn:os.drop ms.length=T.drop M.length) (hw:(Sw ms.length).all (λa=>w.contains a|| !ms.live a)=true) (hk:GZ (w.map f) M=(GZ (w.map f) T).take M.length) (hd:w.map (λi=>cond (ms.live i) none (T.get (f i)))=w.map (λi=>cond (ms.live i) none (M.get (f i)))):xm f ms M dW T:=by
 have hd:∀i∈w,ms.live i=false→T.get (f i)=M.get (f i):= λi hi h=>by
  have q:=Xd.mp hd i hi
  rwa [h] at q
 have lvl:∀(m:ai) a (h:a<m.length),m.live a=m[a].live:= λm a h=>by unfold ai.live;rw[show m.get a=some m[a] from S6 h]
 have lv:∀a,a<ms.length→dW.live a=ms.live a:= λa h=>by have h':a<dW.length:=SX h le;have q:=bk (·[a]?) l2;simp only[Tz] at q;rw[X8 h,S6 h,S6 h'] at q;rw[lvl dW a h',lvl ms a h];exact SN q
 have lo:∀a,a<dW.length→f a<T.length:= λa h=>by
  rw[hT];by_cases c:a<ms.length
  ·exact SX (E.lo a c) (SV _ _)
  ·rw[E.hi a (SS c)];exact abp h (SS c)
 have new:∀a,ms.length≤a→a<dW.length→T.get (f a)=os[a]? := λa h h'=>by have q:=bk (·[a-ms.length]?) hn;rw[aql,aql,UJ h,←E.hi a h] at q;exact q.symm
 have oa:∀a o,dW.get a=some o→os[a]? =some (o.bM f):= λa o ho=>by rw[←hr,Tz,show dW[a]? =some o from ho];rfl
 have get:∀a o,dW.get a=some o→o.live=true→T.get (f a)=some (o.bM f):= λa o ho l=>by
  have k9:=ai.fL ho;by_cases c:a<ms.length
  ·have q:=bk (·[a]?) hg
   have ht:(os.take ms.length)[a]? =some (o.bM f):=(X8 c).trans (oa a o ho);have hz:((Sw ms.length).zip (os.take ms.length))[a]? =some (a,o.bM f):=by rw[List.getElem?_zip_eq_some];exact⟨Wj c,ht⟩
   simp only[Tz] at q;rw[ht,hz,Xf,Xf,O.i0,l] at q;exact(SN q).symm
  ·exact(new a (SS c) k9).trans (oa a o ho)
 refine⟨⟨lo,λa ha=>by rw[hT,E.hi a (SG le ha)];exact F5 le ha,get,λa b ha hb q=> ?_⟩,hT,λb hb hn=> ?_,λa ha hd=> ?_⟩
 ·have old:∀x y,x<ms.length→¬y<ms.length→f x=f y→False:= λx y hx hy z=>by
   rw[E.hi y (SS hy)] at z;exact absurd (E.lo x hx) (TL.mpr (z▸SV _ _))
  by_cases ca:a<ms.length<;>by_cases cb:b<ms.length
  ·exact E.inj a b ((lv a ca).symm.trans ha) ((lv b cb).symm.trans hb) q
  ·exact(old a b ca cb q).elim
  ·exact(old b a cb ca q.symm).elim
  ·rw[E.hi a (SS ca),E.hi b (SS cb)] at q
   exact BK (SS ca) (SS cb) q
 ·by_cases nb:b∈w.map f
  ·obtain⟨i,hi,q⟩:=SW.mp nb
   rw[←q];exact hd i hi (Bool.eq_false_iff.mpr λc=>hn i c q)
  ·have q:=bk (·[b]?) hk
   rw[show(GZ (w.map f) M)[b]? =M[b]?from Fj _ _ nb,show((GZ (w.map f) T).take M.length)[b]? =T[b]?from(X8 hb).trans (Fj _ _ nb)] at q;exact q.symm
 ·have k9:=ai.ef hd
  by_cases c:a<dW.length
  ·have q:=new a ha c
   have hx:dW.get a=some dW[a]:=S6 c;rw[oa a _ hx] at q;refine ai.dg hx ?_;rw[←O.i0 f];obtain⟨o,ho,lo⟩:=ai.iu hd;rw[←SN (ho.symm.trans q)];exact lo
  ·rw[hT,E.hi a ha,F5 (n:=M.length) le (SS c)] at k9
   exact absurd k9 (TL.mpr (SV _ _))
theorem rC{ms dW M T:ai}{f:Nat→Nat}(w:List Nat)(E:Em f ms M)(le:UC ms.length dW.length=true)(l2:(dW.take ms.length).map O.live=ms.map O.live)
  (hT:T.length=M.length+(dW.length-ms.length)) {os:ai} (hr:dW.map (O.bM f)=os) (hg:(os.take ms.length).map (λo=>cond o.live (some o) none)=((Sw ms.length).zip (os.take ms.length)).map λp=>cond p.2.live (T.get (f p.1)) none)
  (hn:os.drop ms.length=T.drop M.length) (hw:(Sw ms.length).all (λa=>w.contains a|| !ms.live a)=true) (hk:GZ (w.map f) M=(GZ (w.map f) T).take M.length) (hl:w.all (λi=>ms.live i)=true):xm f ms M dW T:=
 abk w E (TF le) l2 hT hr hg hn hw hk (Tg λi hi=>by rw[S9.mp hl i hi];rfl)
theorem qb{n:Nat}{g:Fn}{vs:List V}{v:V}{ms dW M T:ai}{f:Nat→Nat}(h:aq (aE n g vs ms) v dW)(E:Em f ms M)(p:xm f ms M dW T):aq (aE n g (V.fW f vs) M) (v.bM f) T:=
 aE.frame h E (λv' m' q _=>⟨T,by rw[q.2];exact p,by rw[q.1];exact⟨rfl,rfl⟩⟩) λ_ h=>h.elim
theorem IL{n:Nat}{g:Fn}{vs:List V}{ms dW M T:ai}{f:Nat→Nat}(h:aE n g vs ms (λ_ _=>False) λm'=>m'=dW)(E:Em f ms M)(p:xm f ms M dW T):aE n g (V.fW f vs) M (λ_ _=>False) λm'=>m'=T:=
 aE.frame h E (λ_ _ h _=>h.elim) λm' q=>⟨T,by rw[q];exact p,rfl⟩
section
noncomputable abbrev lW{x:Int}{l:List Int}{r:Bool}(h:decide (x∈l)=r):(uh (.int x) (vi l)).map (! ·)=some (!r):=bk (Ua (! ·)) (cz h)
section
variable(n:Nat)
noncomputable def wo(l:List Int)(y:Int):List Int:=l.filter λx=> !decide (x=y)
theorem akV(l:List Int)(y:Int)(hs:l.length<64):aq (vM n (aY .without 0).ex [.ref 0,.int y,.af] (.ref 0) [aj l]) (.ref 1) [aj l,aj (wo l y)]:=by
 have h:=pq.zp (n:=n) (t:= .aA 2) (v:= .ref 0) (cs:=(aY .without 0).ex.cs) (el:= .zv 2) (env:=[.ref 0,.int y,.af]) (m:=[aj l]) (c:=V.int) (l:=l) (g:= λx=>if(!decide (x=y))=true then some x else none) rfl (SM hs (by decide)) λx hx=>by
  by_cases c:x=y
  ·rw[aC c]
   exact gC (kB 0 (qL (aC c))<|kI 1 (some (SP V.int l))<|kE)
  ·rw[aH c]
   exact gC (kB 0 (qL (aH c))<|kI 1 (some (SP V.int l))<|kE)
 rw[ku] at h;exact h
theorem wo0(l:List Int)(y:Int)(hs:l.length<64):aq (aE (n+1) .without [.ref 0,.int y] [aj l]) (.ref 1) [aj l,aj (wo l y)]:=
 gN 1 rfl (eO (wo l y)) rfl (kC 0 (akV n l y hs)<|gZ 0)
theorem zR(l:List Int)(y:Int)(hs:l.length<64)(a:Nat)(M:ai)(g:b7 [(a,aj l)] M):aq (aE (n+1) .without [.ref a,.int y] M) (.ref M.next) (M.push (aj (wo l y))):=
 rM (wo0 n l y hs) (Em.of g rfl (ec (az _ l) rfl) rfl) (rP _ _)
noncomputable def ad(l:List Int)(y:Int):List Int:=zG (l++[y])
theorem ad0(l:List Int)(y:Int)(hs:l.length<63):aq (aE (n+2) .Dr [.ref 0,.int y] [aj l]) (.ref 1) [aj l,aj (ad l y)]:=by
 have h1:(l++[y]).length<64:=by rw[S4];exact Nat.succ_lt_succ hs
 exact gN 3 rfl (eO (ad l y)) rfl (Hi 1 (Mr h1) (viA l [y])<|jE 0 (pX n (l++[y]) h1 ((ai.push [aj l] (O.list [V.int y])).next))<|gZ 0)
theorem Lc(l:List Int)(y:Int)(hs:l.length<63)(a:Nat)(M:ai)(g:b7 [(a,aj l)] M):aq (aE (n+2) .Dr [.ref a,.int y] M) (.ref M.next) (M.push (aj (ad l y))):=
 rM (ad0 n l y hs) (Em.of g rfl (ec (az _ l) rfl) rfl) (rP _ _)
noncomputable def zW(a b:List Int):Nat:=(a.filter λx=> !decide (x∈b)).length
noncomputable def vG(b:List Int)(k:Nat)(x:Int):Nat:=if x∈b then k else k+1
theorem aaZ(b:List Int)(l:List Int):∀k,l.foldl (vG b) k=k+zW l b:=by
 induction l with
 |nil=>exactλk=>rfl
 |cons x l ih=>
  intro k;show l.foldl (vG b) (vG b k x)=_;rw[ih];unfold vG zW;rw[T6];by_cases c:x∈b
  ·rw[aG c,aC c];rfl
  ·rw[aJ c,aH c];exact Vg ..
theorem aat(a b:List Int):aq (zC n (aY .gn 1) [.ref 0,.ref 1,.int 0,.af] (.ref 0) [aj a,aj b]) (.next [.ref 0,.ref 1,.int (zW a b),.af]) [aj a,aj b]:=by
 have h:=rO.nj (n:=n) (t:= .aA 3) (v:= .ref 0) (body:=(aY .gn 1).body) (bf:=[3]) (c:=V.int) (l:=a) (a:=0) (E:= λk:Nat=>[.ref 0,.ref 1,.int k,.af]) (M:= λ_=>[aj a,aj b]) (step:=vG b) (I:= λ_ _=>True) rfl trivial (λ_=>rfl) λk x xs _=>⟨trivial,by
  unfold vG;by_cases c:x∈b
  ·rw[aG c];exact gL (kB 0 (lW (aC c))<|kI 1 (some (SP V.int a))<|kE)
  ·rw[aJ c];exact gL (kB 0 (lW (aH c))<|kI 2 (some (SP V.int a))<|kE) (λ_ _=>by kernel_rfl)⟩
 rw[aaZ,Uq] at h;exact h
theorem RJ(a b:List Int)(k:Nat):aq (zC n (aY .gn 2) [.ref 0,.ref 1,.int k,.af] (.ref 1) [aj a,aj b]) (.next [.ref 0,.ref 1,.int ((k+zW b a:Nat):Int),.af]) [aj a,aj b]:=by
 have h:=rO.nj (n:=n) (t:= .aA 3) (v:= .ref 1) (body:=(aY .gn 2).body) (bf:=[3]) (c:=V.int) (l:=b) (a:=k) (E:= λk:Nat=>[.ref 0,.ref 1,.int k,.af]) (M:= λ_=>[aj a,aj b]) (step:=vG a) (I:= λ_ _=>True) rfl trivial (λ_=>rfl) λk x xs _=>⟨trivial,by
  unfold vG;by_cases c:x∈a
  ·rw[aG c];exact gL (kB 0 (lW (aC c))<|kI 1 (some (SP V.int b))<|kE)
  ·rw[aJ c];exact gL (kB 0 (lW (aH c))<|kI 2 (some (SP V.int b))<|kE) (λ_ _=>by kernel_rfl)⟩
 rw[aaZ] at h;exact h
noncomputable def apart(a b:List Int):Nat:=zW a b+zW b a
theorem abR(a b:List Int):aq (aE (n+1) .gn [.ref 0,.ref 1] [aj a,aj b]) (.int (apart a b)) [aj a,aj b]:=
 gS rfl rfl (kF 0 (aat n a b)<|kF 0 (RJ n a b (zW a b))<|gZ 0)
theorem HP(a b:List Int)(p q:Nat)(hn:wk [p,q]=true)(M:ai)(g:b7 [(p,aj a),(q,aj b)] M):aq (aE (n+1) .gn [.ref p,.ref q] M) (.int (apart a b)) M:=
 eB (abR n a b) (Em.of g hn (ec (az _ a) (ec (az _ b) rfl)) rfl)
end
section
variable(n:Nat)(a b l x:List Int)(ca:Bool)
noncomputable abbrev G2:ai:=[dJ 1 2 3 4 ca,aj a,aj b,aj l,aj x]
theorem BJ(f:Nat→Nat):(G2 a b l x ca).map (O.bM f)=[dJ (f 1) (f 2) (f 3) (f 4) ca,aj a,aj b,aj l,aj x]:=ec rfl (ec (az _ a) (ec (az _ b) (ec (az _ l) (ec (az _ x) rfl))))
theorem ahT(h:(a++b++l).length<64):aq (aE (n+2) .gm [.ref 0] (G2 a b l x ca)) (.ref 5) (G2 a b l x ca++[aj (zG (a++b++l))]):=by
 have h1:(a++b).length<64:=by rw[S4] at h;exact Sz (SV _ _) h
 exact gN 7 rfl (eO (zG (a++b++l))) rfl (Hi 2 (Mr h1) (viA a b)<|Hi 1 (Mr h) (viA (a++b) l)<|jE 0 (pX n (a++b++l) h (((G2 a b l x ca).push (O.list (vi (a++b)))).next))<|gZ 0)
theorem GK(h:(a++b++l).length<64)(p q r s t:Nat)(hn:wk [p,q,r,s,t]=true)(M:ai)(g:b7 [(p,dJ q r s t ca),(q,aj a),(r,aj b),(s,aj l),(t,aj x)] M):aq (aE (n+2) .gm [.ref p] M) (.ref M.next) (M.push (aj (zG (a++b++l)))):=
 rM (ahT n a b l x ca h) (Em.of g hn (BJ a b l x ca _) rfl) (rP _ _)
structure MI:Prop where
 len:(a++b++l).length<64
 z:0∉a++b++l
 xb:∀y∈x,y∈b∧y∉l∧y∉a
 lv:∀y∈l,y∉a∧y∉b
 ca:b=[]→ca=false
theorem ahE(ex:ai)(o:MI a b l x ca):aq (zC n (aY .di 1) [.ref 0,.af] (.ref 4) (G2 a b l x ca++ex)) (.next [.ref 0,.af]) (G2 a b l x ca++ex):=
 rO.nj (bf:=[1]) (c:=V.int) (l:=x) (a:=()) (E:= λ_=>[.ref 0,.af]) (M:= λ_=>G2 a b l x ca++ex) (step:= λa _=>a) (I:= λ_ xs=> ∀y∈xs,y∈x) rfl (λ_ h=>h) (λ_=>rfl) λ_ y xs h=>⟨λz hz=>h z (S0 _ hz),by obtain⟨h1,h2,h3⟩:=o.xb y (h y SI);exact gL (kB 1 (lW (aC h1))<|kB 2 (cz (aH h2))<|kB 2 (cz (aH h3))<|kI 1 (some (SP V.int x))<|kE) (λ_ _=>by kernel_rfl)⟩
theorem agn(ex:ai)(o:MI a b l x ca):aq (zC n (aY .di 2) [.ref 0,.af] (.ref 3) (G2 a b l x ca++ex)) (.next [.ref 0,.af]) (G2 a b l x ca++ex):=
 rO.nj (bf:=[1]) (c:=V.int) (l:=l) (a:=()) (E:= λ_=>[.ref 0,.af]) (M:= λ_=>G2 a b l x ca++ex) (step:= λa _=>a) (I:= λ_ xs=> ∀y∈xs,y∈l) rfl (λ_ h=>h) (λ_=>rfl) λ_ y xs h=>⟨λz hz=>h z (S0 _ hz),by obtain⟨h1,h2⟩:=o.lv y (h y SI);exact gL (kB 1 (cz (aH h1))<|kB 2 (cz (aH h2))<|kI 1 (some (SP V.int l))<|kE) (λ_ _=>by kernel_rfl)⟩
theorem ah1(b:List Int)(r:Bool)(h:decide (b=[])=r):some (decide ((0:Int)<((vi b).length:Int)))=some (!r):=by
 subst h;cases b with
 |nil=>rfl
 |cons y b=>exact bk some (aC (by rw[Sy,Va];omega))
theorem aev(r:Bool)(h:decide (b=[])=r):aq (aE (n+1) .eS [.ref 0] (G2 a b l x ca)) (.bool (!r)) (G2 a b l x ca):=
 gS rfl rfl (kB 2 (ah1 b r h)<|gZ 0)
theorem jJ(r:Bool)(h:decide (b=[])=r)(p q u s t:Nat)(hn:wk [p,q,u,s,t]=true)(M:ai)(g:b7 [(p,dJ q u s t ca),(q,aj a),(u,aj b),(s,aj l),(t,aj x)] M):aq (aE (n+1) .eS [.ref p] M) (.bool (!r)) M:=
 eB (aev n a b l x ca r h) (Em.of g hn (BJ a b l x ca _) rfl)
theorem adH(o:MI a b l x ca):aq (aE (n+3) .di [.ref 0] (G2 a b l x ca)) .none (G2 a b l x ca):=by
 have h0:decide (0∈zG (a++b++l))=false:=aH λh=>o.z (tZ.mp h);cases c:decide (b=[]) with
 |true=>
  have h1:=o.ca (of_decide_eq_true c);exact gS rfl rfl (jE 1 (GK n a b l x ca o.len 0 1 2 3 4 rfl)<|kB 0 (cz h0)<|kF 2 (ahE (n+2) a b l x ca [aj (zG (a++b++l))] o)<|kF 1 (agn (n+2) a b l x ca [aj (zG (a++b++l))] o)<|kR 1 (jJ (n+1) a b l x ca true c 0 1 2 3 4 rfl)<|kB 3 (sj h1)<|gZ 0)
 |false=>exact gS rfl rfl (jE 1 (GK n a b l x ca o.len 0 1 2 3 4 rfl)<|kB 0 (cz h0)<|kF 2 (ahE (n+2) a b l x ca [aj (zG (a++b++l))] o)<|kF 1 (agn (n+2) a b l x ca [aj (zG (a++b++l))] o)<|kR 1 (jJ (n+1) a b l x ca false c 0 1 2 3 4 rfl)<|gZ 2)
theorem n8(o:MI a b l x ca)(p q r s t:Nat)(hn:wk [p,q,r,s,t]=true)(M:ai)(g:b7 [(p,dJ q r s t ca),(q,aj a),(r,aj b),(s,aj l),(t,aj x)] M):aq (aE (n+3) .di [.ref p] M) .none M:=
 eB (adH n a b l x ca o) (Em.of g hn (BJ a b l x ca _) rfl)
end
end
section
noncomputable abbrev iz(r:Nat):O:= .inst .gh [(.b6,.ref r)]
noncomputable abbrev bK(l:List (Int×Int)):O:= .list (l.map aR)
section
variable(n:Nat)(st:List (Int×Int))(ca:Bool)(v0 o l0 x0 v l x:List Int)(y:Int)
noncomputable abbrev PX:ai:=[dJ 4 5 6 7 ca,iz 3,bK st,.aM,aj v0,aj o,aj l0,aj x0]
noncomputable abbrev Pr:ai:=[dJ 8 5 9 10 ca,iz 3,bK st,.aM,aj v0,aj o,aj l0,aj x0,aj v,aj l,aj x]
noncomputable abbrev doG(a b c:Nat)(ex:ai):ai:=[dJ a 5 b c ca,iz 3,bK st,.aM,aj v0,aj o,aj l0,aj x0]++ex
structure Sh:Prop where
 v0:v0.length<60
 l0:l0.length<60
 x0:x0.length<60
 v:v.length<60
 l:l.length<60
 x:x.length<60
theorem Cr{l:List Int}{y:Int}{k:Nat}(h:l.length<k):(wo l y).length<k:=Sz (WI ..) h
theorem PY{k:Nat}(h:k<60):k<64:=SM h (by decide)
theorem l63{k:Nat}(h:k<60):k<63:=SM h (by decide)
variable(h:Sh v0 l0 x0 v l x)
include h
theorem rmA:aq (aE (n+3) .e9 [.ref 1,.ref 0,.int y] (PX st ca v0 o l0 x0)) .none (Pr st ca v0 o l0 x0 (wo v0 y) (wo l0 y) (wo x0 y)):=
 gF rfl (jE 1 (zR (n+1) v0 y (PY h.v0) 4)<|jE 1 (zR (n+1) l0 y (PY h.l0) 6)<|jE 1 (zR (n+1) x0 y (PY h.x0) 7)<|kE)
theorem rmB:aq (aE (n+3) .e9 [.ref 1,.ref 0,.int y] (Pr st ca v0 o l0 x0 v l x)) .none (doG st ca v0 o l0 x0 11 12 13 [aj v,aj l,aj x,aj (wo v y),aj (wo l y),aj (wo x y)]):=
 gF rfl (jE 1 (zR (n+1) v y (PY h.v) 8)<|jE 1 (zR (n+1) l y (PY h.l) 9)<|jE 1 (zR (n+1) x y (PY h.x) 10)<|kE)
theorem mvA:aq (aE (n+3) .dX [.ref 1,.ref 0,.int y] (PX st ca v0 o l0 x0)) .none (doG st ca v0 o l0 x0 10 8 9 [aj (wo l0 y),aj (wo x0 y),aj (ad v0 y)]):=
 gF rfl (jE 1 (zR (n+1) l0 y (PY h.l0) 6)<|jE 1 (zR (n+1) x0 y (PY h.x0) 7)<|jE 1 (Lc n v0 y (l63 h.v0) 4)<|kE)
theorem mvB:aq (aE (n+3) .dX [.ref 1,.ref 0,.int y] (Pr st ca v0 o l0 x0 v l x)) .none (doG st ca v0 o l0 x0 13 11 12 [aj v,aj l,aj x,aj (wo l y),aj (wo x y),aj (ad v y)]):=
 gF rfl (jE 1 (zR (n+1) l y (PY h.l) 9)<|jE 1 (zR (n+1) x y (PY h.x) 10)<|jE 1 (Lc n v y (l63 h.v) 8)<|kE)
theorem ajG(c:y∈l0):aq (aE (n+4) .bF [.ref 1,.ref 0,.int y] (PX st ca v0 o l0 x0)) .none (PX st ca v0 o l0 x0):=
 gF rfl (kB 1 (cz (aC c))<|kE)
theorem aks(c:y∈l):aq (aE (n+4) .bF [.ref 1,.ref 0,.int y] (Pr st ca v0 o l0 x0 v l x)) .none (Pr st ca v0 o l0 x0 v l x):=
 gF rfl (kB 1 (cz (aC c))<|kE)
theorem aj7(c:y∉l0)(d:y∈o):aq (aE (n+4) .bF [.ref 1,.ref 0,.int y] (PX st ca v0 o l0 x0)) .none (doG st ca v0 o l0 x0 8 9 11 [aj (wo v0 y),aj (wo l0 y),aj (wo x0 y),aj (ad (wo x0 y) y)]):=by have hr:=rmA n st ca v0 o l0 x0 v l x y h;exact gF rfl (kB 1 (cz (aH c))<|kC 2 hr<|kB 1 (cz (aC d))<|jE 2 (Lc (n+1) (wo x0 y) y (Cr (l63 h.x0)) 10)<|kE)
theorem aju(c:y∉l)(d:y∈o):aq (aE (n+4) .bF [.ref 1,.ref 0,.int y] (Pr st ca v0 o l0 x0 v l x)) .none (doG st ca v0 o l0 x0 11 12 14 [aj v,aj l,aj x,aj (wo v y),aj (wo l y),aj (wo x y),aj (ad (wo x y) y)]):=by have hr:=rmB n st ca v0 o l0 x0 v l x y h;exact gF rfl (kB 1 (cz (aH c))<|kC 2 hr<|kB 1 (cz (aC d))<|jE 2 (Lc (n+1) (wo x y) y (Cr (l63 h.x)) 13)<|kE)
theorem ajj(c:y∉l0)(d:y∉o):aq (aE (n+4) .bF [.ref 1,.ref 0,.int y] (PX st ca v0 o l0 x0)) .none (doG st ca v0 o l0 x0 8 11 10 [aj (wo v0 y),aj (wo l0 y),aj (wo x0 y),aj (ad (wo l0 y) y)]):=by have hr:=rmA n st ca v0 o l0 x0 v l x y h;exact gF rfl (kB 1 (cz (aH c))<|kC 2 hr<|kB 1 (cz (aH d))<|jE 2 (Lc (n+1) (wo l0 y) y (Cr (l63 h.l0)) 9)<|kE)
theorem akD(c:y∉l)(d:y∉o):aq (aE (n+4) .bF [.ref 1,.ref 0,.int y] (Pr st ca v0 o l0 x0 v l x)) .none (doG st ca v0 o l0 x0 11 14 13 [aj v,aj l,aj x,aj (wo v y),aj (wo l y),aj (wo x y),aj (ad (wo l y) y)]):=by have hr:=rmB n st ca v0 o l0 x0 v l x y h;exact gF rfl (kB 1 (cz (aH c))<|kC 2 hr<|kB 1 (cz (aH d))<|jE 2 (Lc (n+1) (wo l y) y (Cr (l63 h.l)) 12)<|kE)
end
end
section
noncomputable abbrev lY:=(Int→Bool)×(Int→Bool)×(Int→Bool)
noncomputable def wm(p:Int→Bool)(y x:Int):Bool:=p x||x==y
noncomputable def iy(p:Int→Bool)(y x:Int):Bool:=p x&& !decide (x=y)
theorem uT(p:Int→Bool){y:Int}(h:0≤y∧y<6):ad (ah p) y=ah (wm p y):=aaD p h.1 h.2
theorem eE(p:Int→Bool)(y:Int):wo (ah p) y=ah (iy p y):=FY p _
noncomputable def zL(o:Int→Bool)(t:lY)(p:Int×Int):lY:=
 if p.2=0 then t else if p.1=0 then(wm t.1 p.2,iy t.2.1 p.2,iy t.2.2 p.2)
 else if p.1=3 then(if t.2.1 p.2=true then t else if o p.2=true then(iy t.1 p.2,iy t.2.1 p.2,wm (iy t.2.2 p.2) p.2) else(iy t.1 p.2,wm (iy t.2.1 p.2) p.2,iy t.2.2 p.2))
 else if p.1=1 then(iy t.1 p.2,iy t.2.1 p.2,iy t.2.2 p.2) else t
noncomputable def dO(o:Int→Bool)(t:lY)(st:List (Int×Int)):lY:=st.foldl (zL o) t
noncomputable abbrev Lw:List V:=[.ref 1,.ref 0,.ref 2,.af,.af]
section
variable(st:List (Int×Int))(ca:Bool)(v0 o l0 x0 v l x:List Int)
theorem mvG{m:ai}(a b c:Nat)(hm:([0,1,2,3,4,5,6,7,a,b,c].zip [true,true,true,false,true,true,true,true,true,true,true]).map (λp=>cond p.2 ((m.get p.1).getD .aM) .aM)=[dJ a 5 b c ca,iz 3,bK st,.aM,aj v0,aj o,aj l0,aj x0,aj v,aj l,aj x])
  (k3:(m.take 8).map O.live=[true,true,true,false,true,true,true,true])
  (hb:(ndM [0,1,2,3,4,5,6,7,a,b,c] [true,true,true,false,true,true,true,true,true,true,true]&&([0,1,2,3,4,5,6,7,a,b,c].all (λa=>S8 a m.length)&&[a,b,c].all (λa=>UC 8 a)))=true):
  Nx 8 (.ref 2) (st.map aR) Lw m Lw (Pr st ca v0 o l0 x0 v l x):=by
 refine .inr ⟨_,Mv.Lz (ms:=Pr st ca v0 o l0 x0 v l x) hm rfl (ec rfl (ec rfl (ec (dK _ aR (λ_=>rfl) _) (ec rfl (ec (az _ _) (ec (az _ _) (ec (az _ _) (ec (az _ _) (ec (az _ _) (ec (az _ _) (ec (az _ _) rfl))))))))))) rfl k3.symm ?_,rfl,rfl⟩;exact hb
end
section
variable(n:Nat)(st:List (Int×Int))(o o':O)(mm mm':ai)(k y:Int)
noncomputable abbrev mO(o:O)(mm:ai):ai:=o::iz 3::bK st::mm
abbrev Fe:Prop:=i9 (n+4) (.iJ [3,4]) (aY .aW 0).body [3,4] (.ref 2) (st.map aR) (aR (k,y)) Lw (mO st o mm) Lw (mO st o' mm')
theorem agX(h:y=0):Fe n st o o mm mm k y:=gL (kB 0 (aT (aC h))<|kI 1 (some (SP aR st))<|kE)
theorem af2(h:y≠0)(h0:k≠0)(h3:k≠3)(h1:k≠1)(h2:k=2):Fe n st o o mm mm k y:=gL (kB 0 (aT (aH h))<|kB 1 (aT (aH h0))<|kB 1 (aT (aH h3))<|kB 1 (aT (aH h1))<|kB 1 (qL (aC h2))<|kI 1 (some (SP aR st))<|kE)
theorem afP(h:y≠0)(h0:k=0)(c:aq (aE (n+4) .dX [.ref 1,.ref 0,.int y] (mO st o mm)) .none (mO st o' mm')):Fe n st o o' mm mm' k y:=gL (kB 0 (aT (aH h))<|kB 1 (aT (aC h0))<|kC 2 c<|kI 0 (some (SP aR st))<|kE)
theorem KW(h:y≠0)(h0:k≠0)(h3:k=3)(c:aq (aE (n+4) .bF [.ref 1,.ref 0,.int y] (mO st o mm)) .none (mO st o' mm')):Fe n st o o' mm mm' k y:=gL (kB 0 (aT (aH h))<|kB 1 (aT (aH h0))<|kB 1 (aT (aC h3))<|kC 2 c<|kI 0 (some (SP aR st))<|kE)
theorem ahY(h:y≠0)(h0:k≠0)(h3:k≠3)(h1:k=1)(c:aq (aE (n+4) .e9 [.ref 1,.ref 0,.int y] (mO st o mm)) .none (mO st o' mm')):Fe n st o o' mm mm' k y:=gL (kB 0 (aT (aH h))<|kB 1 (aT (aH h0))<|kB 1 (aT (aH h3))<|kB 1 (aT (aC h1))<|kC 2 c<|kI 0 (some (SP aR st))<|kE)
end
end
section
theorem i60(p:Int→Bool):(ah p).length<60:=Sz (cQ p) (by decide)
theorem shI(a b c d e f:Int→Bool):Sh (ah a) (ah b) (ah c) (ah d) (ah e) (ah f):=⟨i60 a,i60 b,i60 c,i60 d,i60 e,i60 f⟩
section
variable(n:Nat)(st:List (Int×Int))(ca:Bool)(t0:lY)(o:Int→Bool)
noncomputable def tO(a:Bool×lY):ai:=match a.1 with
 |false=>PX st ca (ah t0.1) (ah o) (ah t0.2.1) (ah t0.2.2)
 |true=>Pr st ca (ah t0.1) (ah o) (ah t0.2.1) (ah t0.2.2) (ah a.2.1) (ah a.2.2.1) (ah a.2.2.2)
noncomputable def su(t:lY)(p:Int×Int):Option lY:=
 if p.2=0 then none else if p.1=0 then some (wm t.1 p.2,iy t.2.1 p.2,iy t.2.2 p.2)
 else if p.1=3 then(if t.2.1 p.2=true then none else if o p.2=true then some (iy t.1 p.2,iy t.2.1 p.2,wm (iy t.2.2 p.2) p.2) else some (iy t.1 p.2,wm (iy t.2.1 p.2) p.2,iy t.2.2 p.2))
 else if p.1=1 then some (iy t.1 p.2,iy t.2.1 p.2,iy t.2.2 p.2) else none
theorem Og(t:lY)(p:Int×Int):(su o t p).getD t=zL o t p:=by
 unfold su zL
 split
 ·rfl
 split
 ·rfl
 split
 ·split
  ·rfl
  split<;>rfl
 split<;>rfl
noncomputable def nD(a:Bool×lY)(p:Int×Int):Bool×lY:=match su o a.2 p with
 |none=>a
 |some t=>(true,t)
abbrev OB(m m':ai):Prop:=Nx 8 (.ref 2) (st.map aR) Lw m Lw m'
theorem wV(f:Nat→Nat)(a b c d:List Int):(PX st ca a b c d).map (O.bM f)=[dJ (f 4) (f 5) (f 6) (f 7) ca,iz (f 3),bK st,.aM,aj a,aj b,aj c,aj d]:=ec rfl (ec rfl (ec (dK _ aR (λ_=>rfl) _) (ec rfl (ec (az _ _) (ec (az _ _) (ec (az _ _) (ec (az _ _) rfl)))))))
theorem H9(f:Nat→Nat)(a b c d x y z:List Int):(Pr st ca a b c d x y z).map (O.bM f)=[dJ (f 8) (f 5) (f 9) (f 10) ca,iz (f 3),bK st,.aM,aj a,aj b,aj c,aj d,aj x,aj y,aj z]:=ec rfl (ec rfl (ec (dK _ aR (λ_=>rfl) _) (ec rfl (ec (az _ _) (ec (az _ _) (ec (az _ _) (ec (az _ _) (ec (az _ _) (ec (az _ _) (ec (az _ _) rfl))))))))))
theorem OB.yq(a:Bool×lY):OB st (tO st ca t0 o a) (tO st ca t0 o a):= .inl ⟨rfl,rfl⟩
abbrev TD(k y:Int)(a:Bool×lY)(m:ai):Prop:=i9 (n+4) (.iJ [3,4]) (aY .aW 0).body [3,4] (.ref 2) (st.map aR) (aR (k,y)) Lw (tO st ca t0 o a) Lw m
theorem QE(b:Bool)(t:lY)(k y:Int)(hb:b=false→t=t0)(hk:0≤k∧k<4)(hy:0≤y∧y<6):∃m,TD n st ca t0 o k y (b,t) m∧OB st m (tO st ca t0 o (nD o (b,t) (k,y))):=by
 have yq:su o t (k,y)=none→TD n st ca t0 o k y (b,t) (tO st ca t0 o (b,t))→∃m,TD n st ca t0 o k y (b,t) m∧OB st m (tO st ca t0 o (nD o (b,t) (k,y))):= λe T=>⟨_,T,by rw[show nD o (b,t) (k,y)=(b,t) by unfold nD;rw[e]];exact OB.yq st ca t0 o (b,t)⟩
 have D8:∀t' m,su o t (k,y)=some t'→TD n st ca t0 o k y (b,t) m→OB st m (tO st ca t0 o (true,t'))→∃m,TD n st ca t0 o k y (b,t) m∧OB st m (tO st ca t0 o (nD o (b,t) (k,y))):= λt' m e T q=>⟨m,T,by rw[show nD o (b,t) (k,y)=(true,t') by unfold nD;rw[e]];exact q⟩
 have sh:=shI t0.1 t0.2.1 t0.2.2 t.1 t.2.1 t.2.2;by_cases h:y=0
 ·refine yq (aG h) ?_
  cases b with
  |false=>exact agX n st _ _ k y h
  |true=>exact agX n st _ _ k y h
 by_cases h0:k=0
 ·have e:su o t (k,y)=_:=(aJ h).trans (aG h0)
  cases b with
  |false=>
   have tt:=hb rfl;subst tt;exact D8 _ _ e (afP n st _ _ _ _ k y h h0 (mvA (n+1) st ca _ _ _ _ _ _ _ y (shI t.1 t.2.1 t.2.2 t.1 t.2.1 t.2.2))) (by unfold tO;rw[show ah (wm t.1 y)=_ from(uT t.1 hy).symm,show ah (iy t.2.1 y)=_ from(eE t.2.1 y).symm,show ah (iy t.2.2 y)=_ from(eE t.2.2 y).symm];exact mvG st ca _ _ _ _ _ _ _ 10 8 9 rfl rfl rfl)
  |true=>exact D8 _ _ e (afP n st _ _ _ _ k y h h0 (mvB (n+1) st ca _ _ _ _ _ _ _ y sh)) (by unfold tO;rw[show ah (wm t.1 y)=_ from(uT t.1 hy).symm,show ah (iy t.2.1 y)=_ from(eE t.2.1 y).symm,show ah (iy t.2.2 y)=_ from(eE t.2.2 y).symm];exact mvG st ca _ _ _ _ _ _ _ 13 11 12 rfl rfl rfl)
 by_cases h3:k=3
 ·have mi:∀p:Int→Bool,¬p y=true→y∉ah p:= λp c m=>c (aL.mp m).2
  have e3:su o t (k,y)=_:=(aJ h).trans ((aJ h0).trans (aG h3));by_cases c:t.2.1 y=true
  ·refine yq (e3.trans (aG c)) ?_
   cases b with
   |false=>
    have tt:=hb rfl;subst tt;exact KW n st _ _ _ _ k y h h0 h3 (ajG n st ca _ _ _ _ _ _ _ y sh (aL.mpr ⟨hy,c⟩))
   |true=>exact KW n st _ _ _ _ k y h h0 h3 (aks n st ca _ _ _ _ _ _ _ y sh (aL.mpr ⟨hy,c⟩))
  by_cases d:o y=true
  ·have e:su o t (k,y)=_:=e3.trans ((aJ c).trans (aG d))
   cases b with
   |false=>
    have tt:=hb rfl;subst tt;exact D8 _ _ e (KW n st _ _ _ _ k y h h0 h3 (aj7 n st ca _ _ _ _ _ _ _ y (shI t.1 t.2.1 t.2.2 t.1 t.2.1 t.2.2) (mi _ c) (aL.mpr ⟨hy,d⟩))) (by unfold tO;rw[show ah (iy t.1 y)=_ from(eE t.1 y).symm,show ah (iy t.2.1 y)=_ from(eE t.2.1 y).symm,show ah (wm (iy t.2.2 y) y)=_ from(uT (iy t.2.2 y) hy).symm,←eE t.2.2 y];exact mvG st ca _ _ _ _ _ _ _ 8 9 11 rfl rfl rfl)
   |true=>exact D8 _ _ e (KW n st _ _ _ _ k y h h0 h3 (aju n st ca _ _ _ _ _ _ _ y sh (mi _ c) (aL.mpr ⟨hy,d⟩))) (by unfold tO;rw[show ah (iy t.1 y)=_ from(eE t.1 y).symm,show ah (iy t.2.1 y)=_ from(eE t.2.1 y).symm,show ah (wm (iy t.2.2 y) y)=_ from(uT (iy t.2.2 y) hy).symm,←eE t.2.2 y];exact mvG st ca _ _ _ _ _ _ _ 11 12 14 rfl rfl rfl)
  ·have e:su o t (k,y)=_:=e3.trans ((aJ c).trans (aJ d))
   cases b with
   |false=>
    have tt:=hb rfl;subst tt;exact D8 _ _ e (KW n st _ _ _ _ k y h h0 h3 (ajj n st ca _ _ _ _ _ _ _ y (shI t.1 t.2.1 t.2.2 t.1 t.2.1 t.2.2) (mi _ c) (mi _ d))) (by unfold tO;rw[show ah (iy t.1 y)=_ from(eE t.1 y).symm,show ah (iy t.2.2 y)=_ from(eE t.2.2 y).symm,show ah (wm (iy t.2.1 y) y)=_ from(uT (iy t.2.1 y) hy).symm,←eE t.2.1 y];exact mvG st ca _ _ _ _ _ _ _ 8 11 10 rfl rfl rfl)
   |true=>exact D8 _ _ e (KW n st _ _ _ _ k y h h0 h3 (akD n st ca _ _ _ _ _ _ _ y sh (mi _ c) (mi _ d))) (by unfold tO;rw[show ah (iy t.1 y)=_ from(eE t.1 y).symm,show ah (iy t.2.2 y)=_ from(eE t.2.2 y).symm,show ah (wm (iy t.2.1 y) y)=_ from(uT (iy t.2.1 y) hy).symm,←eE t.2.1 y];exact mvG st ca _ _ _ _ _ _ _ 11 14 13 rfl rfl rfl)
 by_cases h1:k=1
 ·have e:su o t (k,y)=_:=(aJ h).trans ((aJ h0).trans ((aJ h3).trans (aG h1)))
  cases b with
  |false=>
   have tt:=hb rfl;subst tt;exact D8 _ _ e (ahY n st _ _ _ _ k y h h0 h3 h1 (rmA (n+1) st ca _ _ _ _ _ _ _ y (shI t.1 t.2.1 t.2.2 t.1 t.2.1 t.2.2))) (by unfold tO;rw[show ah (iy t.1 y)=_ from(eE t.1 y).symm,show ah (iy t.2.1 y)=_ from(eE t.2.1 y).symm,show ah (iy t.2.2 y)=_ from(eE t.2.2 y).symm];exact mvG st ca _ _ _ _ _ _ _ 8 9 10 rfl rfl rfl)
  |true=>exact D8 _ _ e (ahY n st _ _ _ _ k y h h0 h3 h1 (rmB (n+1) st ca _ _ _ _ _ _ _ y sh)) (by unfold tO;rw[show ah (iy t.1 y)=_ from(eE t.1 y).symm,show ah (iy t.2.1 y)=_ from(eE t.2.1 y).symm,show ah (iy t.2.2 y)=_ from(eE t.2.2 y).symm];exact mvG st ca _ _ _ _ _ _ _ 11 12 13 rfl rfl rfl)
 have h2:k=2:=by omega
 refine yq ((aJ h).trans ((aJ h0).trans ((aJ h3).trans (aJ h1)))) ?_;cases b with
 |false=>exact af2 n st _ _ k y h h0 h3 h1 h2
 |true=>exact af2 n st _ _ k y h h0 h3 h1 h2
end
end
section
section
variable(n:Nat)(st:List (Int×Int))(ca:Bool)(t0:lY)(o:Int→Bool)
theorem Np(a:Bool×lY)(p:Int×Int):(nD o a p).2=zL o a.2 p:=by rw[←Og];unfold nD;cases su o a.2 p<;>rfl
theorem aaX(l:List (Int×Int)):∀a,(l.foldl (nD o) a).2=dO o a.2 l:=by
 induction l with
 |nil=>exactλ_=>rfl
 |cons p l ih=>
  intro a;show(l.foldl (nD o) (nD o a p)).2=_;rw[ih,Np];rfl
def l8(st:List (Int×Int)):Prop:= ∀p∈st,(0≤p.1∧p.1<4)∧0≤p.2∧p.2<6
theorem akK(l:List (Int×Int)):∀a:Bool×lY,(a.1=false→a.2=t0)→(l.foldl (nD o) a).1=false→(l.foldl (nD o) a).2=t0:=by
 induction l with
 |nil=>exactλ_ h=>h
 |cons p l ih=>
  intro a h;refine ih (nD o a p) λc=> ?_;unfold nD at c⊢;cases e:su o a.2 p with
  |none=>rw[e] at c;exact h c
  |some t'=>rw[e] at c;exact nomatch c
theorem Ng(hs:l8 st):∃b,(b=false→dO o t0 st=t0)∧aq (zC (n+4) (aY .aW 0) Lw (.ref 2) (tO st ca t0 o (false,t0))) (.next Lw) (tO st ca t0 o (b,dO o t0 st)):=by
 have h:=rO.A6 (n:=n+4) (t:= .iJ [3,4]) (v:= .ref 2) (body:=(aY .aW 0).body) (bf:=[3,4]) (c:=aR) (l:=st) (a:=(false,t0)) (k:=8) (E:= λ_=>Lw) (M:=tO st ca t0 o) (step:=nD o) (I:= λa xs=>(a.1=false→a.2=t0)∧l8 xs) rfl ⟨λ_=>rfl,hs⟩ (λ_=>rfl)
  (λa x xs ⟨h1,h2⟩=>by
   obtain⟨b,t⟩:=a;obtain⟨k,y⟩:=x;have hx:=h2 (k,y) SI;obtain⟨m,T,q⟩:=QE n st ca t0 o b t k y h1 hx.1 hx.2;refine⟨⟨λc=> ?_,λp hp=>h2 p (S0 _ hp)⟩,Lw,m,T,q⟩;unfold nD at c⊢;cases e:su o t (k,y) with
   |none=>rw[show su o (b,t).2 (k,y)=none from e] at c;exact h1 c
   |some t'=>rw[show su o (b,t).2 (k,y)=some t' from e] at c;exact nomatch c) rfl
 refine⟨(st.foldl (nD o) (false,t0)).1,λc=>(aaX o st (false,t0)).symm.trans (akK t0 o st (false,t0) (λ_=>rfl) c),?_⟩;rw[←show(st.foldl (nD o) (false,t0)).2=dO o t0 st from aaX o st _];exact h
theorem aa7(hs:l8 st)(hv:ah (dO o t0 st).1≠[]):∃b,(b=false→dO o t0 st=t0)∧aq (aE (n+5) .aW [.ref 1,.ref 0,.ref 2] (tO st ca t0 o (false,t0))) .none (tO st ca t0 o (b,dO o t0 st)):=by
 obtain⟨b,hb,h⟩:=Ng n st ca t0 o hs;have hn:vi (ah (dO o t0 st).1)≠[]:= λe=>hv (UI.mp e);refine⟨b,hb,?_⟩;generalize e:dO o t0 st=t at*;cases b with
 |false=>
  have c:=hb rfl;subst c;exact gF rfl (kF 0 h<|kB 1 (kJ hn)<|kE)
 |true=>exact gF rfl (kF 0 h<|kB 1 (kJ hn)<|kE)
theorem aaR(hs:l8 st)(hv:ah (dO o t0 st).1=[]):∃b,aE (n+5) .aW [.ref 1,.ref 0,.ref 2] (tO st ca t0 o (false,t0)) (λ_ _=>False) λm'=>m'=tO st ca t0 o (b,dO o t0 st):=by
 obtain⟨b,hb,h⟩:=Ng n st ca t0 o hs;have hn:vi (ah (dO o t0 st).1)=[]:=by rw[hv];rfl
 refine⟨b,?_⟩;generalize e:dO o t0 st=t at*;cases b with
 |false=>
  have c:=hb rfl;subst c;exact gX rfl (kF 0 h<|kB 1 (ahb hn)<|kE)
 |true=>exact gX rfl (kF 0 h<|kB 1 (ahb hn)<|kE)
end
end
section
noncomputable abbrev ccO(tr:Int)(r:Nat):O:= .inst .eW [(.cH,.int tr),(.lq,.ref r),(.jt,.bytes [])]
section
variable(n:Nat)(st:List (Int×Int))(tr:Int)(ca:Bool)(t:lY)(o:Int→Bool)
noncomputable abbrev l5(ex:ai):ai:=[dJ 1 2 3 4 ca,aj (ah t.1),aj (ah o),aj (ah t.2.1),aj (ah t.2.2),ccO tr 6,bK st]++ex
noncomputable abbrev KC(ex:ai):ai:=l5 st tr ca t o ([iz 0,dJ 9 10 11 12 ca,aj (ah t.1),aj (ah o),aj (ah t.2.1),aj (ah t.2.2)]++ex)
noncomputable def apD(b:Bool)(t':lY):ai:=match b with
 |false=>KC st tr ca t o []
 |true=>l5 st tr ca t o [iz 0,dJ 13 10 14 15 ca,aj (ah t.1),aj (ah o),aj (ah t.2.1),aj (ah t.2.2),aj (ah t'.1),aj (ah t'.2.1),aj (ah t'.2.2)]
theorem L4(l:List Int)(h:l.length<64)(u:Up l)(a:Nat)(M:ai)(g:b7 [(a,aj l)] M):aq (aE (n+1) .gq [.ref a] M) (.ref M.next) (M.push (aj l)):=by
 have q:=pX n l h a M g
 rwa [Jw u] at q
theorem bZ(p:Int→Bool)(a:Nat)(M:ai)(g:b7 [(a,aj (ah p))] M):aq (aE (n+1) .gq [.ref a] M) (.ref M.next) (M.push (aj (ah p))):=L4 n _ (Sz (cQ p) (by decide)) (sd p) a M g
noncomputable abbrev apX:List Nat:=[8,7,6,0,9,10,11,12]
theorem apE:Em (bQ apX (KC st tr ca t o []).length) (tO st ca t o (false,t)) (KC st tr ca t o []):=
 Em.mask (d9:=apX) (al:=[true,true,true,false,true,true,true,true]) (ms:=PX st ca (ah t.1) (ah o) (ah t.2.1) (ah t.2.2)) rfl rfl (wV st ca _ _ _ _ _) rfl rfl
theorem apP(b:Bool)(t':lY):xm (bQ apX (KC st tr ca t o []).length) (tO st ca t o (false,t)) (KC st tr ca t o []) (tO st ca t o (b,t')) (apD st tr ca t o b t'):=by
 have r1:=wV st ca (bQ apX (KC st tr ca t o []).length) (ah t.1) (ah o) (ah t.2.1) (ah t.2.2);have r2:=H9 st ca (bQ apX (KC st tr ca t o []).length) (ah t.1) (ah o) (ah t.2.1) (ah t.2.2) (ah t'.1) (ah t'.2.1) (ah t'.2.2);cases b with
 |false=>exact rC [0,1,2,4,5,6,7] (apE st tr ca t o) rfl rfl rfl r1 rfl rfl rfl rfl rfl
 |true=>exact rC [0,1,2,4,5,6,7] (apE st tr ca t o) rfl rfl rfl r2 rfl rfl rfl rfl rfl
end
end
section
section
variable(n:Nat)(st:List (Int×Int))(tr:Int)(ca:Bool)(t:lY)(o:Int→Bool)
abbrev MH(t:lY)(o:Int→Bool)(ca:Bool):Prop:=MI (ah t.1) (ah o) (ah t.2.1) (ah t.2.2) ca
variable(hs:l8 st)(ck:MH t o ca)
include hs
theorem aeo(hv:ah (dO o t st).1≠[]):∃b,(b=false→dO o t st=t)∧aq (aE (n+5) .aW [.ref 7,.ref 8,.ref 6] (KC st tr ca t o [])) .none (apD st tr ca t o b (dO o t st)):=
 let⟨b,hb,h⟩:=aa7 n st ca t o hs hv
 ⟨b,hb,qb h (apE st tr ca t o) (apP st tr ca t o b _)⟩
theorem abZ(hv:ah (dO o t st).1=[]):∃b,aE (n+5) .aW [.ref 7,.ref 8,.ref 6] (KC st tr ca t o []) (λ_ _=>False) λm'=>m'=apD st tr ca t o b (dO o t st):=
 let⟨b,h⟩:=aaR n st ca t o hs hv
 ⟨b,IL h (apE st tr ca t o) (apP st tr ca t o b _)⟩
omit hs
include ck
theorem vo:aq (aE (n+5) .dj [.ref 7] (l5 st tr ca t o [iz 0])) (.ref 8) (KC st tr ca t o []):=by have hc:=n8 (n+1) _ _ _ _ _ ck 0 1 2 3 4 rfl;exact gF rfl (kR 2 hc<|jE 9 (bZ (n+1) t.1 1)<|jE 0 (bZ (n+1) o 2)<|jE 0 (bZ (n+1) t.2.1 3)<|jE 0 (bZ (n+1) t.2.2 4)<|kE)
theorem J0(ho:ah o≠[]):aE (n+6) .dY [.ref 7,.ref 6] (l5 st tr ca t o [iz 0]) (λ_ _=>False) λm'=>m'=KC st tr ca t o []:=by have hc:=vo n st tr ca t o ck;have hj:=jJ (n+4) (ah t.1) (ah o) (ah t.2.1) (ah t.2.2) ca false (aH ho) 8 9 10 11 12 rfl;exact gX rfl (kC 1 hc<|kR 1 hj<|kE)
include hs
theorem aeW(ho:ah o=[])(Hp:ah t.1≠[])(hv:ah (dO o t st).1≠[])(ha:apart (ah t.1) (ah (dO o t st).1)≤1)(zB:MH (dO o t st) o ca):∃b,(b=false→dO o t st=t)∧aq (aE (n+6) .dY [.ref 7,.ref 6] (l5 st tr ca t o [iz 0])) (.ref 8) (apD st tr ca t o b (dO o t st)):=by
 have hc:=vo n st tr ca t o ck;have hj:=jJ (n+4) (ah t.1) (ah o) (ah t.2.1) (ah t.2.2) ca true (aC ho) 8 9 10 11 12 rfl;have h1:vi (ah t.1)≠[]:= λe=>Hp (UI.mp e);obtain⟨b,hb,hd⟩:=aeo n st tr ca t o hs hv;refine⟨b,hb,?_⟩;have hle:decide ((1:Int)<(apart (ah t.1) (ah (dO o t st).1):Int))=false:=aH (by omega);cases b with
 |false=>
  have e:=hb rfl;rw[e] at hd hle zB⊢;have ha':=HP (n+4) (ah t.1) (ah t.1) 1 9 rfl;have hk:=n8 (n+2) _ _ _ _ _ zB 8 9 10 11 12 rfl;exact gF rfl (kC 1 hc<|kR 1 hj<|kB 2 (kJ h1)<|kC 2 hd<|kR 3 ha'<|kB 0 (eZ hle)<|kR 2 hk<|kE)
 |true=>
  generalize dO o t st=t' at*;have ha':=HP (n+4) (ah t.1) (ah t'.1) 1 13 rfl;have hk:=n8 (n+2) _ _ _ _ _ zB 8 13 10 14 15 rfl;exact gF rfl (kC 1 hc<|kR 1 hj<|kB 2 (kJ h1)<|kC 2 hd<|kR 3 ha'<|kB 0 (eZ hle)<|kR 2 hk<|kE)
omit hs ck in
theorem adh(b:Bool)(t':lY):∃ex,apD st tr ca t o b t'=l5 st tr ca t o ex:=by cases b<;>exact⟨_,rfl⟩
theorem L5(ho:ah o=[])(Hp:ah t.1≠[])(hv:ah (dO o t st).1=[]):∃ex,aE (n+6) .dY [.ref 7,.ref 6] (l5 st tr ca t o [iz 0]) (λ_ _=>False) λm'=>m'=l5 st tr ca t o ex:=by have hc:=vo n st tr ca t o ck;have hj:=jJ (n+4) (ah t.1) (ah o) (ah t.2.1) (ah t.2.2) ca true (aC ho) 8 9 10 11 12 rfl;have h1:vi (ah t.1)≠[]:= λe=>Hp (UI.mp e);obtain⟨b,hd⟩:=abZ n st tr ca t o hs hv;obtain⟨ex,e⟩:=adh st tr ca t o b (dO o t st);refine⟨ex,?_⟩;rw[←e];generalize apD st tr ca t o b (dO o t st)=T at*;exact gX rfl (kC 1 hc<|kR 1 hj<|kB 2 (kJ h1)<|kX 2 hd<|kE)
end
end
section
section
variable(n:Nat)(st:List (Int×Int))(tr:Int)(ca al:Bool)(t:lY)(o:Int→Bool)
noncomputable abbrev Rw(al:Bool):ai:=l5 st tr ca t o [iz 0,dJ 9 13 11 12 al,aj (ah t.1),aj (ah o),aj (ah t.2.1),aj (ah t.2.2),aj (ah t.1)]
noncomputable def ajD(al b:Bool)(t':lY):ai:=match b with
 |false=>Rw st tr ca t o al
 |true=>l5 st tr ca t o [iz 0,dJ 14 13 15 16 al,aj (ah t.1),aj (ah o),aj (ah t.2.1),aj (ah t.2.2),aj (ah t.1),aj (ah t'.1),aj (ah t'.2.1),aj (ah t'.2.2)]
noncomputable abbrev ajX:List Nat:=[8,7,6,0,9,13,11,12]
theorem ajE:Em (bQ ajX (Rw st tr ca t o ca).length) (tO st ca t t.1 (false,t)) (Rw st tr ca t o ca):=
 Em.mask (d9:=ajX) (al:=[true,true,true,false,true,true,true,true]) (ms:=PX st ca (ah t.1) (ah t.1) (ah t.2.1) (ah t.2.2)) rfl rfl (wV st ca _ _ _ _ _) rfl rfl
theorem ajP(b:Bool)(t':lY):xm (bQ ajX (Rw st tr ca t o ca).length) (tO st ca t t.1 (false,t)) (Rw st tr ca t o ca) (tO st ca t t.1 (b,t')) (ajD st tr ca t o ca b t'):=by
 have r1:=wV st ca (bQ ajX (Rw st tr ca t o ca).length) (ah t.1) (ah t.1) (ah t.2.1) (ah t.2.2);have r2:=H9 st ca (bQ ajX (Rw st tr ca t o ca).length) (ah t.1) (ah t.1) (ah t.2.1) (ah t.2.2) (ah t'.1) (ah t'.2.1) (ah t'.2.2);cases b with
 |false=>exact rC [0,1,2,4,5,6,7] (ajE st tr ca t o) rfl rfl rfl r1 rfl rfl rfl rfl rfl
 |true=>exact rC [0,1,2,4,5,6,7] (ajE st tr ca t o) rfl rfl rfl r2 rfl rfl rfl rfl rfl
variable(hs:l8 st)(ck:MH t o ca)
include ck
theorem KL(ho:ah o≠[]):aE (n+6) .br [.ref 7,.bool al,.ref 6] (l5 st tr ca t o [iz 0]) (λ_ _=>False) λm'=>m'=KC st tr ca t o []:=by have hc:=vo n st tr ca t o ck;have hj:=jJ (n+4) (ah t.1) (ah o) (ah t.2.1) (ah t.2.2) ca false (aH ho) 8 9 10 11 12 rfl;exact gX rfl (kC 1 hc<|kR 1 hj<|kE)
omit ck in
theorem aeC(b:Bool)(t':lY):∃ex,ajD st tr ca t o ca b t'=l5 st tr ca t o ex:=by cases b<;>exact⟨_,rfl⟩
include hs
theorem OM(ho:ah o=[])(Hp:ah t.1≠[])(hv:ah (dO t.1 t st).1=[]):∃ex,aE (n+6) .br [.ref 7,.bool al,.ref 6] (l5 st tr ca t o [iz 0]) (λ_ _=>False) λm'=>m'=l5 st tr ca t o ex:=by have hc:=vo n st tr ca t o ck;have hj:=jJ (n+4) (ah t.1) (ah o) (ah t.2.1) (ah t.2.2) ca true (aC ho) 8 9 10 11 12 rfl;have h1:vi (ah t.1)≠[]:= λe=>Hp (UI.mp e);obtain⟨b,hd⟩:=aaR n st ca t t.1 hs hv;have hd:aE (n+5) .aW [.ref 7,.ref 8,.ref 6] (Rw st tr ca t o ca) (λ_ _=>False) λm'=>m'=ajD st tr ca t o ca b (dO t.1 t st):=IL hd (ajE st tr ca t o) (ajP st tr ca t o b _);obtain⟨ex,e⟩:=aeC st tr ca t o b (dO t.1 t st);refine⟨ex,?_⟩;rw[←e];generalize ajD st tr ca t o ca b (dO t.1 t st)=T at*;exact gX rfl (kC 1 hc<|kR 1 hj<|kB 2 (kJ h1)<|jE 2 (bZ (n+4) t.1 9)<|kX 1 hd<|kE)
theorem aem(ho:ah o=[])(Hp:ah t.1≠[])(hv:ah (dO t.1 t st).1≠[])(zB:MH (dO t.1 t st) t.1 al):∃b,(b=false→dO t.1 t st=t)∧aq (aE (n+6) .br [.ref 7,.bool al,.ref 6] (l5 st tr ca t o [iz 0])) (.ref 8) (ajD st tr ca t o al b (dO t.1 t st)):=by
 have hc:=vo n st tr ca t o ck;have hj:=jJ (n+4) (ah t.1) (ah o) (ah t.2.1) (ah t.2.2) ca true (aC ho) 8 9 10 11 12 rfl;have h1:vi (ah t.1)≠[]:= λe=>Hp (UI.mp e);obtain⟨b,hb,hd⟩:=aa7 n st ca t t.1 hs hv;have hd:aq (aE (n+5) .aW [.ref 7,.ref 8,.ref 6] (Rw st tr ca t o ca)) .none (ajD st tr ca t o ca b (dO t.1 t st)):=qb hd (ajE st tr ca t o) (ajP st tr ca t o b _);refine⟨b,hb,?_⟩;cases b with
 |false=>
  have e:=hb rfl;rw[e] at hd zB⊢;have hk:=n8 (n+2) _ _ _ _ _ zB 8 9 13 11 12 rfl;exact gF rfl (kC 1 hc<|kR 1 hj<|kB 2 (kJ h1)<|jE 2 (bZ (n+4) t.1 9)<|kC 1 hd<|kR 1 hk<|kE)
 |true=>
  generalize dO t.1 t st=t' at*;have hk:=n8 (n+2) _ _ _ _ _ zB 8 14 13 15 16 rfl;exact gF rfl (kC 1 hc<|kR 1 hj<|kB 2 (kJ h1)<|jE 2 (bZ (n+4) t.1 9)<|kC 1 hd<|kR 1 hk<|kE)
omit hs
noncomputable def orP(p q:Int→Bool)(x:Int):Bool:=p x||q x
noncomputable abbrev lvD:ai:=l5 st tr ca t o [iz 0,dJ 9 16 14 15 false,aj (ah t.1),aj (ah o),aj (ah t.2.1),aj (ah t.2.2),aj (ah t.2.1++ah t.2.2),aj (ah (orP t.2.1 t.2.2)),.list [],.list []]
theorem ahV(ho:ah o=[]):aE (n+6) .cS [.ref 7] (l5 st tr ca t o [iz 0]) (λ_ _=>False) λm'=>m'=KC st tr ca t o []:=by have hc:=vo n st tr ca t o ck;have hj:=jJ (n+4) (ah t.1) (ah o) (ah t.2.1) (ah t.2.2) ca true (aC ho) 8 9 10 11 12 rfl;exact gX rfl (kC 1 hc<|kR 1 hj<|kE)
theorem agK(ho:ah o≠[])(Hp:ah t.1≠[])(zB:MH (t.1,orP t.2.1 t.2.2,λ_=>false) (λ_=>false) false):aq (aE (n+6) .cS [.ref 7] (l5 st tr ca t o [iz 0])) (.ref 8) (lvD st tr ca t o):=by
 have hc:=vo n st tr ca t o ck;have hj:=jJ (n+4) (ah t.1) (ah o) (ah t.2.1) (ah t.2.2) ca false (aH ho) 8 9 10 11 12 rfl;have h1:vi (ah t.1)≠[]:= λe=>Hp (UI.mp e);have hl:(ah t.2.1++ah t.2.2).length<64:=by rw[S4];exact Sz (W7 (cQ _) (cQ _)) (by decide)
 have hr:=pX (n+4) (ah t.2.1++ah t.2.2) hl 13;rw[Au] at hr;have hk:=n8 (n+2) _ _ _ _ _ zB 8 9 16 14 15 rfl;exact gF rfl (kC 1 hc<|kR 1 hj<|Hi 4 (Mr hl) (viA (ah t.2.1) (ah t.2.2))<|jE 0 hr<|kB 3 (kJ h1)<|kR 2 hk<|kE)
end
end
section
section
variable(n:Nat)(st:List (Int×Int))(ca:Bool)(t:lY)(o:Int→Bool)(T:ai)
theorem sne{st:List (Int×Int)}(h:st≠[]):st.map aR≠[]:= λe=>h (UI.mp e)
theorem s1{st:List (Int×Int)}(h:st.length=1):decide (((st.map aR).length:Int)≤1)=true:=aC (by rw[Sy,h];decide)
theorem s2{st:List (Int×Int)}(h:1<st.length):decide (((st.map aR).length:Int)≤1)=false:=aH (by rw[Sy];omega)
theorem n0{st:List (Int×Int)}(h:1≤st.length):st≠[]:= λe=>by subst e;exact absurd h (by decide)
noncomputable abbrev B8(tr:Int)(st:List (Int×Int)):ai:=[ccO tr 1,bK st]
theorem QD(tr:Int)(f:Nat→Nat):(B8 tr st).map (O.bM f)=[ccO tr (f 1),bK st]:=ec rfl (ec (dK _ aR (λ_=>rfl) _) rfl)
theorem eg{n:Nat}{g:Fn}{tr:Int}{v:V}(h:aq (aE n g [.ref 0] (B8 tr st)) v (B8 tr st))(hv:v.pure=true)(p q:Nat)(hn:wk [p,q]=true)(M:ai)(G:b7 [(p,ccO tr q),(q,bK st)] M):aq (aE n g [.ref p] M) v M:=by have k:=eB h (Em.of G hn (QD st tr _) rfl);rw[V.nT _ v hv] at k;exact k
theorem Qi(h:st≠[]):aq (aE (n+1) .cB [.ref 0] (B8 0 st)) (.bool false) (B8 0 st):=gS rfl rfl (kB 4 (kJ (sne h))<|gZ 0)
theorem agw:aq (aE (n+1) .cB [.ref 0] (B8 0 [])) (.bool true) (B8 0 []):=gS rfl rfl (gZ 5)
theorem ahO:aq (aE (n+1) .cB [.ref 0] (B8 1 st)) (.bool false) (B8 1 st):=gS rfl rfl (gZ 3)
theorem ag7:aq (aE (n+1) .cB [.ref 0] (B8 2 st)) (.bool false) (B8 2 st):=gS rfl rfl (gZ 3)
theorem ag3(h:st.length=1):aq (aE (n+1) .cA [.ref 0] (B8 0 st)) (.bJ [.bool false,.bool false]) (B8 0 st):=gS rfl rfl (kB 8 (Dl (s1 h))<|gZ 1)
theorem abx(h:1<st.length):aq (aE (n+1) .cA [.ref 0] (B8 0 st)) (.bJ [.bool true,.bool true]) (B8 0 st):=gS rfl rfl (kB 8 (Dl (s2 h))<|gZ 3)
theorem age:aq (aE (n+1) .cA [.ref 0] (B8 1 st)) (.bJ [.bool true,.bool true]) (B8 1 st):=gS rfl rfl (gZ 9)
theorem ahN:aq (aE (n+1) .cA [.ref 0] (B8 2 st)) (.bJ [.bool false,.bool true]) (B8 2 st):=gS rfl rfl (gZ 9)
theorem ah0(h:aq (aE (n+6) .cS [.ref 7] (l5 [] 0 ca t o [iz 0])) (.ref 8) T):aq (aE (n+7) .bG [.ref 0,.ref 5] (l5 [] 0 ca t o [])) (.ref 8) T:=
 gF rfl (kR 2 (eg [] (agw (n+5)) rfl 5 6 rfl)<|kC 2 h<|kE)
theorem aeI(h:aE (n+6) .cS [.ref 7] (l5 [] 0 ca t o [iz 0]) (λ_ _=>False) λm'=>m'=T):aE (n+7) .bG [.ref 0,.ref 5] (l5 [] 0 ca t o []) (λ_ _=>False) λm'=>m'=T:=
 gX rfl (kR 2 (eg [] (agw (n+5)) rfl 5 6 rfl)<|kX 2 h<|kE)
theorem aeN(hl:st.length=1)(h:aq (aE (n+6) .dY [.ref 7,.ref 6] (l5 st 0 ca t o [iz 0])) (.ref 8) T):aq (aE (n+7) .bG [.ref 0,.ref 5] (l5 st 0 ca t o [])) (.ref 8) T:=
 gF rfl (kR 2 (eg st (Qi (n+5) st (n0 (Te hl.symm))) rfl 5 6 rfl)<|kR 2 (eg st (ag3 (n+5) st hl) rfl 5 6 rfl)<|kC 3 h<|kE)
theorem Ji(hl:st.length=1)(h:aE (n+6) .dY [.ref 7,.ref 6] (l5 st 0 ca t o [iz 0]) (λ_ _=>False) λm'=>m'=T):aE (n+7) .bG [.ref 0,.ref 5] (l5 st 0 ca t o []) (λ_ _=>False) λm'=>m'=T:=
 gX rfl (kR 2 (eg st (Qi (n+5) st (n0 (Te hl.symm))) rfl 5 6 rfl)<|kR 2 (eg st (ag3 (n+5) st hl) rfl 5 6 rfl)<|kX 3 h<|kE)
theorem agV(hl:1<st.length)(h:aq (aE (n+6) .br [.ref 7,.bool true,.ref 6] (l5 st 0 ca t o [iz 0])) (.ref 8) T):aq (aE (n+7) .bG [.ref 0,.ref 5] (l5 st 0 ca t o [])) (.ref 8) T:=
 gF rfl (kR 2 (eg st (Qi (n+5) st (n0 (Tv hl))) rfl 5 6 rfl)<|kR 2 (eg st (abx (n+5) st hl) rfl 5 6 rfl)<|kC 3 h<|kE)
theorem OW(hl:1<st.length)(h:aE (n+6) .br [.ref 7,.bool true,.ref 6] (l5 st 0 ca t o [iz 0]) (λ_ _=>False) λm'=>m'=T):aE (n+7) .bG [.ref 0,.ref 5] (l5 st 0 ca t o []) (λ_ _=>False) λm'=>m'=T:=
 gX rfl (kR 2 (eg st (Qi (n+5) st (n0 (Tv hl))) rfl 5 6 rfl)<|kR 2 (eg st (abx (n+5) st hl) rfl 5 6 rfl)<|kX 3 h<|kE)
theorem agg(h:aq (aE (n+6) .br [.ref 7,.bool true,.ref 6] (l5 st 1 ca t o [iz 0])) (.ref 8) T):aq (aE (n+7) .bG [.ref 0,.ref 5] (l5 st 1 ca t o [])) (.ref 8) T:=
 gF rfl (kR 2 (eg st (ahO (n+5) st) rfl 5 6 rfl)<|kR 2 (eg st (age (n+5) st) rfl 5 6 rfl)<|kC 3 h<|kE)
theorem M5(h:aE (n+6) .br [.ref 7,.bool true,.ref 6] (l5 st 1 ca t o [iz 0]) (λ_ _=>False) λm'=>m'=T):aE (n+7) .bG [.ref 0,.ref 5] (l5 st 1 ca t o []) (λ_ _=>False) λm'=>m'=T:=
 gX rfl (kR 2 (eg st (ahO (n+5) st) rfl 5 6 rfl)<|kR 2 (eg st (age (n+5) st) rfl 5 6 rfl)<|kX 3 h<|kE)
theorem ahF(h:aq (aE (n+6) .br [.ref 7,.bool false,.ref 6] (l5 st 2 ca t o [iz 0])) (.ref 8) T):aq (aE (n+7) .bG [.ref 0,.ref 5] (l5 st 2 ca t o [])) (.ref 8) T:=
 gF rfl (kR 2 (eg st (ag7 (n+5) st) rfl 5 6 rfl)<|kR 2 (eg st (ahN (n+5) st) rfl 5 6 rfl)<|kC 3 h<|kE)
theorem Nq(h:aE (n+6) .br [.ref 7,.bool false,.ref 6] (l5 st 2 ca t o [iz 0]) (λ_ _=>False) λm'=>m'=T):aE (n+7) .bG [.ref 0,.ref 5] (l5 st 2 ca t o []) (λ_ _=>False) λm'=>m'=T:=
 gX rfl (kR 2 (eg st (ag7 (n+5) st) rfl 5 6 rfl)<|kR 2 (eg st (ahN (n+5) st) rfl 5 6 rfl)<|kX 3 h<|kE)
end
end
section
noncomputable def jS(t:Int→Int)(y v x:Int):Int:=if x=y then v else t x
theorem ab4(t:Int→Int)(v:Int):∀y:Int,y∈U6→(vi (tl t)).set y.toNat (.int v)=vi (tl (jS t y v)):=KZ rfl rfl rfl rfl rfl rfl
theorem ady(a b c:O)(t:Int→Int)(v y:Int)(h:y∈U6):setItem (.ref 3) (.int y) (.int v) [a,b,c,aj (tl t)]=.ok () [a,b,c,aj (tl (jS t y v))]:=by
 have hy:=mS.mp h;have e:(O.list (vi (tl t))).setItem (.int y) (.int v)=some (aj (tl (jS t y v))):=by show aZ (0≤y∧y.toNat<(vi (tl t)).length) (O.list ((vi (tl t)).set y.toNat (.int v)))=_;rw[ab4 t v y h];exact aG ⟨hy.1,by show y.toNat<6;omega⟩
 show(((O.list (vi (tl t))).setItem (.int y) (.int v)).map λob'=>(((),ai.xd [a,b,c,aj (tl t)] 3 ob'):Unit×ai))=_;rw[e];rfl
noncomputable def Co(av:Int→Int)(jg:Bool)(t:Int→Int)(p:Int×Int):Int→Int:=
 if p.2=0 then t else if p.1=0 then jS t p.2 1 else if p.1=1 then jS t p.2 0 else if p.1=3 then(if jg=true then(if av p.2=1 then jS t p.2 3 else jS t p.2 2) else jS t p.2 2) else t
section
variable(n:Nat)(av aI:Int→Int)(st:List (Int×Int))(tr:Int)(bo:Bool)(t:Int→Int)(k y:Int)
noncomputable abbrev afE(bo:Bool)(tr:Int):List V:=[.ref 0,.ref 1,.int tr,.ref 2,.bool false,.bool bo,.ref 3,.af,.af,.af,.af,.af]
noncomputable abbrev afM(t:Int→Int):ai:=[aj (tl av),aj (tl aI),bK st,aj (tl t)]
theorem aac(hk:0≤k∧k<4)(hy:y∈U6):i9 n (.iJ [7,8]) (aY .b9 5).body [7,8] (.ref 2) (st.map aR) (aR (k,y)) (afE bo tr) (afM av aI st t) (afE bo tr) (afM av aI st (Co av bo t (k,y))):=by
 have hs:= λv=>ady (aj (tl av)) (aj (tl aI)) (bK st) t v y hy;have hs0:=hs 0;have hs1:=hs 1;have hs2:=hs 2;have hs3:=hs 3;have hn:=kg av y hy;unfold Co;by_cases h:y=0
 ·rw[aG h];exact gL (kB 0 (aT (aC h))<|kI 1 (some (SP aR st))<|kE)
 rw[aJ h];by_cases h0:k=0
 ·rw[aG h0];exact gL (kB 0 (aT (aH h))<|kB 1 (aT (aC h0))<|kU 1 hs1<|kI 0 (some (SP aR st))<|kE)
 rw[aJ h0];by_cases h1:k=1
 ·rw[aG h1];exact gL (kB 0 (aT (aH h))<|kB 1 (aT (aH h0))<|kB 1 (aT (aC h1))<|kU 1 hs0<|kI 0 (some (SP aR st))<|kE)
 rw[aJ h1];by_cases h3:k=3
 ·rw[aG h3]
  cases bo with
  |true=>
   rw[aG rfl];by_cases c:av y=1
   ·rw[aG c];exact gL (kB 0 (aT (aH h))<|kB 1 (aT (aH h0))<|kB 1 (aT (aH h1))<|kB 1 (aT (aC h3))<|kV 2 hn<|kB 0 (aT (aC c))<|kU 1 hs3<|kI 0 (some (SP aR st))<|kE)
   ·rw[aJ c];exact gL (kB 0 (aT (aH h))<|kB 1 (aT (aH h0))<|kB 1 (aT (aH h1))<|kB 1 (aT (aC h3))<|kV 2 hn<|kB 0 (aT (aH c))<|kB 1 (aT (aC h3))<|kU 1 hs2<|kI 0 (some (SP aR st))<|kE)
  |false=>
   rw[aJ Tc];exact gL (kB 0 (aT (aH h))<|kB 1 (aT (aH h0))<|kB 1 (aT (aH h1))<|kB 1 (aT (aC h3))<|kB 3 (aT (aC h3))<|kU 1 hs2<|kI 0 (some (SP aR st))<|kE)
 ·rw[aJ h3];exact gL (kB 0 (aT (aH h))<|kB 1 (aT (aH h0))<|kB 1 (aT (aH h1))<|kB 1 (aT (aH h3))<|kB 2 (aT (aH h3))<|kI 1 (some (SP aR st))<|kE)
noncomputable def iR(av:Int→Int)(bo:Bool)(st:List (Int×Int)):Int→Int:=st.foldl (Co av bo) av
theorem u5(hs:l8 st):aq (zC n (aY .b9 5) (afE bo tr) (.ref 2) (afM av aI st av)) (.next (afE bo tr)) (afM av aI st (iR av bo st)):=
 rO.nj (bf:=[7,8]) (c:=aR) (l:=st) (a:=av) (E:= λ_=>afE bo tr) (M:= λt=>afM av aI st t) (step:=Co av bo) (I:= λ_ xs=>l8 xs) rfl hs (λ_=>rfl) λt x xs h=>⟨λp hp=>h p (S0 _ hp),by obtain⟨k,y⟩:=x;have hx:=h (k,y) SI;exact aac n av aI st tr bo t k y hx.1 (mS.mpr hx.2)⟩
end
end
section
noncomputable abbrev lvE(i:Nat):E:=match(aY .b9 1).body.LG 1 with
 |.ret e=>e.arg i
 |_=> .stuck
noncomputable abbrev wsE:E:=match aY .b9 8 with
 |.ret e=>e.arg 1
 |_=> .stuck
noncomputable def CN(av:Int→Int)(x:Int):Int:=if av x=3 then 2 else av x
noncomputable def MQ(av:Int→Int)(x:Int):Int:=if av x=1 then 1 else 0
section
variable(n:Nat)(av aI:Int→Int)(st:List (Int×Int))(tr:Int)
noncomputable abbrev qu(ex:ai):ai:=[aj (tl av),aj (tl aI),bK st]++ex
noncomputable abbrev a0E(jo:Bool):List V:=[.ref 0,.ref 1,.int tr,.ref 2,.bool jo,.af,.af,.af,.af,.af,.af,.af]
theorem tlm(f:Int→Int)(t:Int→Int):(tl t).map f=tl λx=>f (t x):=T4 ..
theorem HF(t:Int→Int):(tl t).length<ay:=by show 6<ay;decide
theorem aic:aq (vM n (lvE 0) (a0E tr true) (.ref 0) (qu av aI st [])) (.ref 3) (qu av aI st [aj (tl (CN av))]):=by
 have h:=pq.zp (n:=n) (t:= .aA 10) (v:= .ref 0) (cs:= .zn) (el:=(lvE 0).el) (env:=a0E tr true) (m:=qu av aI st []) (c:=V.int) (l:=tl av) (g:= λx=>some (if x=3 then 2 else x)) rfl (HF av) λx _=>by
  by_cases c:x=3
  ·rw[aG c];exact gC (kB 0 (aT (aC c))<|kI 1 (some (SP V.int (tl av)))<|kE)
  ·rw[aJ c];exact gC (kB 0 (aT (aH c))<|kI 1 (some (SP V.int (tl av)))<|kE)
 rw[VP,tlm] at h;exact h
theorem ag5:aq (vM n (lvE 1) (a0E tr true) (.ref 0) (qu av aI st [aj (tl (CN av))])) (.ref 4) (qu av aI st [aj (tl (CN av)),aj (tl λ_=>0)]):=by have h:=pq.zp (n:=n) (t:= .aA 9) (v:= .ref 0) (cs:= .zn) (el:=(lvE 1).el) (env:=a0E tr true) (m:=qu av aI st [aj (tl (CN av))]) (c:=V.int) (l:=tl av) (g:= λx=>some 0) rfl (HF av) λx _=>gC (kI 0 (some (SP V.int (tl av)))<|kE);rw[VP,tlm] at h;exact h
theorem agb(bo:Bool)(t:Int→Int):aq (vM n wsE (afE bo tr) (.ref 0) (afM av aI st t)) (.ref 4) (afM av aI st t++[aj (tl (MQ av))]):=by
 have h:=pq.zp (n:=n) (t:= .aA 11) (v:= .ref 0) (cs:= .zn) (el:=wsE.el) (env:=afE bo tr) (m:=afM av aI st t) (c:=V.int) (l:=tl av) (g:= λx=>some (if x=1 then 1 else 0)) rfl (HF av) λx _=>by
  by_cases c:x=1
  ·rw[aG c];exact gC (kB 0 (aT (aC c))<|kI 1 (some (SP V.int (tl av)))<|kE)
  ·rw[aJ c];exact gC (kB 0 (aT (aH c))<|kI 1 (some (SP V.int (tl av)))<|kE)
 rw[VP,tlm] at h;exact h
noncomputable abbrev jo(aI:Int→Int):Bool:=decide (1∈tl aI)
theorem afD(h:jo aI=true):aq (aE (n+1) .b9 [.ref 0,.ref 1,.int 0,.ref 2] (qu av aI [] [])) (.ref 5) (qu av aI [] [aj (tl (CN av)),aj (tl λ_=>0),.list [.ref 3,.ref 4,.bool false]]):=by have h0:=aic n av aI [] 0;have h1:=ag5 n av aI [] 0;exact gF rfl (kB 0 (cz h)<|kC 6 h0<|kC 0 h1<|kE)
theorem aeD(h:jo aI=false):aq (aE (n+1) .b9 [.ref 0,.ref 1,.int 0,.ref 2] (qu av aI [] [])) (.ref 3) (qu av aI [] [.list []]):=
 gF rfl (kB 0 (cz h)<|kE)
theorem adQ(h:jo aI=true)(hs:st≠[]):aq (aE (n+1) .b9 [.ref 0,.ref 1,.int 0,.ref 2] (qu av aI st [])) (.ref 3) (qu av aI st [.list []]):=
 gF rfl (kB 0 (cz h)<|kB 2 (AS (sne hs))<|kE)
theorem adz(h:jo aI=true)(ht:tr≠0):aq (aE (n+1) .b9 [.ref 0,.ref 1,.int tr,.ref 2] (qu av aI st [])) (.ref 3) (qu av aI st [.list []]):=
 gF rfl (kB 0 (cz h)<|kB 0 (aT (aH ht))<|kE)
variable(hs:l8 st)
include hs
theorem aky(h:jo aI=false)(hl:st.length=1)(hn:decide (1∈tl (iR av false st))=true):aq (aE (n+1) .b9 [.ref 0,.ref 1,.int 0,.ref 2] (qu av aI st [])) (.ref 4) (qu av aI st [aj (tl (iR av false st)),.list [.ref 3,.ref 1,.bool false]]):=by have hf:=u5 n av aI st 0 false hs;have hc:decide ((1:Int)<((st.map aR).length:Int))=false:=aH (by rw[Sy,hl];decide);exact gF rfl (kB 0 (cz h)<|kB 2 (AS (sne (n0 (Te hl.symm))))<|kB 5 (eZ hc)<|kF 1 hf<|kB 0 (lW hn)<|kE)
theorem ahP(h:jo aI=false)(hl:st.length=1)(hn:decide (1∈tl (iR av false st))=false):aq (aE (n+1) .b9 [.ref 0,.ref 1,.int 0,.ref 2] (qu av aI st [])) (.ref 4) (qu av aI st [aj (tl (iR av false st)),.list []]):=by have hf:=u5 n av aI st 0 false hs;have hc:decide ((1:Int)<((st.map aR).length:Int))=false:=aH (by rw[Sy,hl];decide);exact gF rfl (kB 0 (cz h)<|kB 2 (AS (sne (n0 (Te hl.symm))))<|kB 5 (eZ hc)<|kF 1 hf<|kB 0 (lW hn)<|kE)
theorem akZ(h:jo aI=false)(hl:1<st.length)(hn:decide (1∈tl (iR av true st))=true):aq (aE (n+1) .b9 [.ref 0,.ref 1,.int 0,.ref 2] (qu av aI st [])) (.ref 5) (qu av aI st [aj (tl (iR av true st)),aj (tl (MQ av)),.list [.ref 3,.ref 4,.bool true]]):=by have hf:=u5 n av aI st 0 true hs;have hw:=agb n av aI st 0 true (iR av true st);have hc:decide ((1:Int)<((st.map aR).length:Int))=true:=aC (by rw[Sy];omega);exact gF rfl (kB 0 (cz h)<|kB 2 (AS (sne (n0 (Tv hl))))<|kB 5 (eZ hc)<|kF 1 hf<|kB 0 (lW hn)<|kC 3 hw<|kE)
theorem af9(h:jo aI=false)(hl:1<st.length)(hn:decide (1∈tl (iR av true st))=false):aq (aE (n+1) .b9 [.ref 0,.ref 1,.int 0,.ref 2] (qu av aI st [])) (.ref 4) (qu av aI st [aj (tl (iR av true st)),.list []]):=by have hf:=u5 n av aI st 0 true hs;have hc:decide ((1:Int)<((st.map aR).length:Int))=true:=aC (by rw[Sy];omega);exact gF rfl (kB 0 (cz h)<|kB 2 (AS (sne (n0 (Tv hl))))<|kB 5 (eZ hc)<|kF 1 hf<|kB 0 (lW hn)<|kE)
theorem ajZ(h:jo aI=false)(ht:0<tr)(hn:decide (1∈tl (iR av true st))=true):aq (aE (n+1) .b9 [.ref 0,.ref 1,.int tr,.ref 2] (qu av aI st [])) (.ref 5) (qu av aI st [aj (tl (iR av true st)),aj (tl (MQ av)),.list [.ref 3,.ref 4,.bool (!decide (tr=2))]]):=by have hf:=u5 n av aI st tr true hs;have hw:=agb n av aI st tr true (iR av true st);exact gF rfl (kB 0 (cz h)<|kB 0 (aT (aH (Wq ht)))<|kB 3 (eZ (aC ht))<|kF 2 hf<|kB 0 (lW hn)<|kC 3 hw<|kB 0 (qL (i:=tr) (j:=2) rfl)<|kE)
theorem ag8(h:jo aI=false)(ht:0<tr)(hn:decide (1∈tl (iR av true st))=false):aq (aE (n+1) .b9 [.ref 0,.ref 1,.int tr,.ref 2] (qu av aI st [])) (.ref 4) (qu av aI st [aj (tl (iR av true st)),.list []]):=by have hf:=u5 n av aI st tr true hs;exact gF rfl (kB 0 (cz h)<|kB 0 (aT (aH (Wq ht)))<|kB 3 (eZ (aC ht))<|kF 2 hf<|kB 0 (lW hn)<|kE)
end
end
section
section
variable(n:Nat)(t:lY)(o:Int→Bool)(ca:Bool)
noncomputable abbrev cpM:ai:=G2 (ah t.1) (ah o) (ah t.2.1) (ah t.2.2) ca
noncomputable def frK(u:Int):Kn:=⟨0,u,0,0,false⟩
end
end
section
noncomputable def l7(A:Nat→Nat)(x:Int):Nat:=Am (A 9) [A 12,A 15,A 18,A 21,A 24] x.toNat
noncomputable def zg(A:Nat→Nat)(x:Int):Nat:=Am (A 31) [A 34,A 37,A 40,A 43,A 46] x.toNat
section
variable(A:Nat→Nat)(n:Nat)(K:Int→Kn)(lr:Int→Bool)(k:Nat→Bool)(p:Int→Bool)(t:lY)(o:Int→Bool)(ca:Bool)(L:Int)
noncomputable def rF(p:Int→Bool):List (V×V):=(ah p).map λj=>(.int j,.ref (l7 A j))
noncomputable def z6(T N:Int→Nat)(p:Int→Bool)(x:Int):V×V:=(.int x,.ref (cond (p x) (T x) (N x)))
noncomputable abbrev fV(p:Int→Bool)(x:Int):V×V:=z6 (l7 A) (zg A) p x
noncomputable abbrev trA(c pr:Nat):O:= .inst .cX [(.cR,.int 2),(.bW,.int 0),(.b6,.ref c),(.bL,.ref pr),(.f6,.ref (A 3))]
noncomputable abbrev adB:ai:=[lv (k 0) (pg (K 0) (lr 0) (A 10)),lv (k 0) (gH (A 11)),lv (k 0) (.list []),lv (k 1) (pg (K 1) (lr 1) (A 13)),lv (k 1) (gH (A 14)),lv (k 1) (.list []),lv (k 2) (pg (K 2) (lr 2) (A 16)),lv (k 2) (gH (A 17)),lv (k 2) (.list []),lv (k 3) (pg (K 3) (lr 3) (A 19)),lv (k 3) (gH (A 20)),lv (k 3) (.list []),lv (k 4) (pg (K 4) (lr 4) (A 22)),lv (k 4) (gH (A 23)),lv (k 4) (.list []),lv (k 5) (pg (K 5) (lr 5) (A 25)),lv (k 5) (gH (A 26)),lv (k 5) (.list [])]
noncomputable abbrev sZ(c pr:Nat)(lr:Int→Bool)(ex:ai):ai:=[trA A c pr,dJ (A 4) (A 5) (A 6) (A 7) ca,.aM,.aM,aj (ah t.1),aj (ah o),aj (ah t.2.1),aj (ah t.2.2),.dict .int (rF A p)]++(adB A K lr k++ex)
noncomputable abbrev Gj:List V:=[.ref 0,.ref 1,.int L,.ref 27,.ref 28,.af,.af,.af]
noncomputable abbrev m8(u:Int):Kn:=⟨0,if u<1 then 1 else u,0,0,true⟩
noncomputable abbrev EG(fr:Nat→Bool)(lr:Int→Bool):ai:=[lv (fr 0) (gH (A 30)),lv (fr 0) (.list []),lv (fr 0) (pg (m8 L) (lr 0) (A 29)),lv (fr 1) (gH (A 33)),lv (fr 1) (.list []),lv (fr 1) (pg (m8 L) (lr 1) (A 32)),lv (fr 2) (gH (A 36)),lv (fr 2) (.list []),lv (fr 2) (pg (m8 L) (lr 2) (A 35)),lv (fr 3) (gH (A 39)),lv (fr 3) (.list []),lv (fr 3) (pg (m8 L) (lr 3) (A 38)),lv (fr 4) (gH (A 42)),lv (fr 4) (.list []),lv (fr 4) (pg (m8 L) (lr 4) (A 41)),lv (fr 5) (gH (A 45)),lv (fr 5) (.list []),lv (fr 5) (pg (m8 L) (lr 5) (A 44))]
noncomputable def acr(f:Int→Bool)(j:Int)(b:Bool)(x:Int):Bool:=if x=j then b else f x
theorem Of(l:List Int)(es:List (V×V))(ex:ai):∀xj:Int,xj∈U6→uh (.int xj) (vi (ah t.2.1))=some (t.2.1 xj)→look (.int xj) (rF I p)=some (.ref (l7 I xj))→(kindOf (.int xj)=some .int∧es.length<ay)→bR (.int xj) (.ref (l7 I xj)) es=es++[(.int xj,.ref (l7 I xj))]→
  i9 n (.aA 5) (aY .bB 3).body [5,6,7] (.ref 27) (vi l) (.int xj) (Gj L) (sZ I K (λi=>SA i xj.toNat||k i) p t o ca 2 8 lr ([aj l,.dict .int es]++ex)) (Gj L) (sZ I K (λi=>SA i xj.toNat||k i) p t o ca 2 8 (acr lr xj (t.2.1 xj)) ([aj l,.dict .int (es++[(.int xj,.ref (l7 I xj))])]++ex)):=by
 intro xj hx g1 g2 g3 g4;exact JN (λ_=>j8 1 g1<|j8 1 (j3 g2)<|jj 2 g2<|qQ 0 g3 g4<|OO 0 (some (vi l))<|zF) (by clear g1 g2 g3 g4;revert xj;exact o7 (by kernel_rfl))
theorem Kg(l:List Int)(es:List (V×V)):∀xj:Int,xj∈U6→uh (.int xj) (vi (ah t.2.1))=some (t.2.1 xj)→look (.int xj) (rF I p)=none→(kindOf (.int xj)=some .int∧es.length<ay)→bR (.int xj) (.ref 31) es=es++[(.int xj,.ref 31)]→
  i9 (n+3) (.aA 5) (aY .bB 3).body [5,6,7] (.ref 27) (vi l) (.int xj) (Gj L) (sZ I K k p t o ca 2 8 lr [aj l,.dict .int es]) (Gj L) (sZ I K k p t o ca 2 8 lr [aj l,.dict .int (es++[(.int xj,.ref 31)]),gH 30,.list [],pg (m8 L) (t.2.1 xj) 29]):=by
 intro xj hx g1 g2 g3 g4;exact JN (λ_=>j8 1 g1<|j8 1 (j3 g2)<|qQ 9 g3 g4<|OO 0 (some (vi l))<|zF) (by clear g1 g2 g3 g4;revert xj;exact o7 (by kernel_rfl))
theorem JQ(fr:Nat→Bool)(l:List Int)(es:List (V×V)):∀xj:Int,xj∈U6→uh (.int xj) (vi (ah t.2.1))=some (t.2.1 xj)→look (.int xj) (rF I p)=none→(kindOf (.int xj)=some .int∧es.length<ay)→bR (.int xj) (.ref 49) es=es++[(.int xj,.ref 49)]→
  i9 (n+3) (.aA 5) (aY .bB 3).body [5,6,7] (.ref 27) (vi l) (.int xj) (Gj L) (sZ I K k p t o ca 2 8 lr ([aj l,.dict .int es]++EG I L fr t.2.1)) (Gj L) (sZ I K k p t o ca 2 8 lr ([aj l,.dict .int (es++[(.int xj,.ref 49)])]++(EG I L fr t.2.1++[gH 48,.list [],pg (m8 L) (t.2.1 xj) 47]))):=by
 intro xj hx g1 g2 g3 g4;exact JN (λ_=>j8 1 g1<|j8 1 (j3 g2)<|qQ 9 g3 g4<|OO 0 (some (vi l))<|zF) (by clear g1 g2 g3 g4;revert xj;exact o7 (by kernel_rfl))
end
end
section
section
variable(f:Nat→Nat)(K:Int→Kn)(lr:Int→Bool)(k:Nat→Bool)(p:Int→Bool)(t:lY)(o:Int→Bool)(ca:Bool)(L:Int)
theorem FJ:O.bM f (.dict .int (rF I p))=.dict .int (rF f p):=bk (O.dict .int) ((T4 ..).trans (Tg λj _=>bk (λa=>(V.int j,V.ref a)) (qk f ..)))
theorem NP(x:Int):((fV I p x).1,(fV I p x).2.bM f)=fV f p x:=by refine bk (λa=>(V.int x,V.ref a)) ?_;cases p x<;>exact qk f ..
theorem mq(c pr:Nat)(ex:ai):(sZ I K k p t o ca c pr lr ex).map (O.bM f)=sZ f K k p t o ca (f c) (f pr) lr (ex.map (O.bM f)):=
 ec rfl<|ec rfl<|ec rfl<|ec rfl<|ec (az f _)<|ec (az f _)<|ec (az f _)<|ec (az f _)<|ec (FJ f p)<|
 ec (bl f _ rfl)<|ec (bl f _ rfl)<|ec (bl f _ rfl)<|ec (bl f _ rfl)<|ec (bl f _ rfl)<|ec (bl f _ rfl)<|ec (bl f _ rfl)<|ec (bl f _ rfl)<|ec (bl f _ rfl)<|ec (bl f _ rfl)<|ec (bl f _ rfl)<|ec (bl f _ rfl)<|ec (bl f _ rfl)<|ec (bl f _ rfl)<|ec (bl f _ rfl)<|ec (bl f _ rfl)<|ec (bl f _ rfl)<|ec (bl f _ rfl) rfl
theorem sI(fr:Nat→Bool)(ex:ai):(EG I L fr lr++ex).map (O.bM f)=EG f L fr lr++ex.map (O.bM f):=
 ec (bl f _ rfl)<|ec (bl f _ rfl)<|ec (bl f _ rfl)<|ec (bl f _ rfl)<|ec (bl f _ rfl)<|ec (bl f _ rfl)<|ec (bl f _ rfl)<|ec (bl f _ rfl)<|ec (bl f _ rfl)<|ec (bl f _ rfl)<|ec (bl f _ rfl)<|ec (bl f _ rfl)<|ec (bl f _ rfl)<|ec (bl f _ rfl)<|ec (bl f _ rfl)<|ec (bl f _ rfl)<|ec (bl f _ rfl)<|ec (bl f _ rfl) rfl
end
noncomputable def JR(x:Int):List Nat:=Sw 29++(Sw 18).map λi=>cond (SA (i/3) x.toNat) (29+i%3) 29
noncomputable def al0(x:Int):List Bool:=SR 29 true++(Sw 18).map λi=>SA (i/3) x.toNat
noncomputable def GY(x:Int):List Nat:=Sw 29++(Sw 18).map λi=>cond (SA (i/3) x.toNat) (47+i%3) (29+i)
theorem Js:∀j∈U6,∀x∈U6,l7 (bQ (JR j) 32) x=l7 I x∧l7 (bQ (GY j) 50) x=l7 I x∧(x=j∨zg (bQ (GY j) 50) x=zg I x):=by decide+kernel
section
variable(K:Int→Kn)(lr:Int→Bool)(k:Nat→Bool)(p:Int→Bool)(t:lY)(o:Int→Bool)(ca:Bool)(L:Int)(l:List Int)(es es':List (V×V))
noncomputable abbrev beN(x:Int)(fr:Nat→Bool)(i:Nat):Bool:=SA i x.toNat||fr i
noncomputable abbrev fm0(x:Int):ai:=sZ I K k p t o ca 2 8 lr [aj l,.dict .int es,gH 30,.list [],pg (m8 L) (t.2.1 x) 29]
noncomputable abbrev fm1(x:Int)(fr:Nat→Bool):ai:=sZ I K k p t o ca 2 8 lr ([aj l,.dict .int es]++(EG I L fr t.2.1++[gH 48,.list [],pg (m8 L) (t.2.1 x) 47]))
theorem nf0:∀x:Int,x∈U6→es'.map (λe=>(e.1,e.2.bM (bQ (JR x) 32)))=es→
  Nx 29 (.ref 27) (vi l) (Gj L) (fm0 K lr k p t o ca L l es x) (Gj L) (sZ I K k p t o ca 2 8 lr ([aj l,.dict .int es']++EG I L (beN x λ_=>false) t.2.1)):=by
 intro x hx he;have q:=(mq (bQ (JR x) 32) K lr k p t o ca 2 8 ([aj l,.dict .int es']++EG I L (beN x λ_=>false) t.2.1)).trans (bk (sZ _ K k p t o ca _ _ lr) (ec (az _ _) (ec (bk (O.dict .int) he) ((bk (SP _) (UU _).symm).trans (sI _ t.2.1 L _ [])))));refine .inr ⟨_,Mv.Lz (m:=fm0 K lr k p t o ca L l es x) (d9:=JR x) (al:=al0 x) ?_ rfl q ?_ rfl ?_,?_,rfl⟩<;>clear q he<;>revert x<;>exact C6 (by kernel_rfl)
theorem nf1(fr:Nat→Bool):∀x:Int,x∈U6→es'.map (λe=>(e.1,e.2.bM (bQ (GY x) 50)))=es→
  Nx 29 (.ref 27) (vi l) (Gj L) (fm1 K lr k p t o ca L l es x fr) (Gj L) (sZ I K k p t o ca 2 8 lr ([aj l,.dict .int es']++EG I L (beN x fr) t.2.1)):=by
 intro x hx he;have q:=(mq (bQ (GY x) 50) K lr k p t o ca 2 8 ([aj l,.dict .int es']++EG I L (beN x fr) t.2.1)).trans (bk (sZ _ K k p t o ca _ _ lr) (ec (az _ _) (ec (bk (O.dict .int) he) ((bk (SP _) (UU _).symm).trans (sI _ t.2.1 L _ [])))));refine .inr ⟨_,Mv.Lz (m:=fm1 K lr k p t o ca L l es x fr) (d9:=GY x) (al:=SR 47 true) ?_ rfl q ?_ rfl ?_,?_,rfl⟩<;>clear q he<;>revert x<;>exact C6 (by kernel_rfl)
end
end
section
section
variable(n:Nat)(K:Int→Kn)(lr:Int→Bool)(k:Nat→Bool)(p:Int→Bool)(t:lY)(o:Int→Bool)(ca:Bool)(L:Int)(l:List Int)
noncomputable def vY(p:Int→Bool)(d:List Int)(i:Nat):Bool:=decide ((i:Int)∈d)&& !p i
noncomputable def ud(d:List Int)(x:Int):Bool:=if x∈d∧p x=true then t.2.1 x else lr x
noncomputable def C0(p:Int→Bool)(d:List Int):Bool:=d.any λx=> !p x
noncomputable def adS(d:List Int):ai:=sZ I K k p t o ca 2 8 (ud lr p t d) ([aj l,.dict .int (d.map (fV I p))]++cond (C0 p d) (EG I L (vY p d) t.2.1) [])
theorem B7(d:List Int)(x:Int):C0 p (d++[x])=(C0 p d|| !p x):=by unfold C0;rw[List.any_append];exact bk _ (Vj _)
theorem aaB{d:List Int}{x:Int}(h:p x=true):acr (ud lr p t d) x (t.2.1 x)=ud lr p t (d++[x]):=funext λi=>by
 unfold acr ud;by_cases c:i=x
 ·rw[c,aG rfl,aG ⟨Vm _ SI,h⟩]
 ·rw[aJ c]
  refine ite_congr (propext (and_congr_left λ_=>⟨Vn _,λm=> ?_⟩)) (λ_=>rfl) λ_=>rfl;exact(TQ.mp m).elim id λm=>absurd (Tp.mp m) c
theorem ac7{d:List Int}{x:Int}(h:p x=false):ud lr p t d=ud lr p t (d++[x]):=funext λi=>by unfold ud;refine ite_congr (propext ⟨λm=>⟨Vn _ m.1,m.2⟩,λm=>⟨?_,m.2⟩⟩) (λ_=>rfl) λ_=>rfl;exact(TQ.mp m.1).elim id λz=>by rw[Tp.mp z,h] at m;exact gg m.2
theorem Fz{d:List Int}{x:Int}(h0:0≤x)(h:p x=false):beN x (vY p d)=vY p (d++[x]):=funext λi=>by
 have hx:(x.toNat:Int)=x:=Wm h0;show(SA i x.toNat||(decide ((i:Int)∈d)&& !p i))=(decide ((i:Int)∈d++[x])&& !p i);cases q:SA i x.toNat with
 |true=>
  have e:=T8 q;rw[e,hx,h,aC (Vm d SI)];rfl
 |false=>
  refine bk (· && !p i) (decide_eq_decide.mpr ⟨Vn _,λm=>(TQ.mp m).elim id λm=> ?_⟩);rw[show i=x.toNat from Ye ((Tp.mp m).trans hx.symm),show SA x.toNat x.toNat=true from Vz _] at q;exact gg q.symm
theorem wX{d:List Int}(h:C0 p d=false):vY p d= λ_=>false:=funext λi=>by
 unfold vY;by_cases c:(i:Int)∈d
 ·rw[aC c]
  have:=XD.mp h _ c;exact(XM _).mp this
 ·rw[aH c];rfl
theorem sV(f:Nat→Nat)(d:List Int):(d.map (fV I p)).map (λe=>(e.1,e.2.bM f))=d.map (fV f p):=(T4 ..).trans (Tg λx _=>NP f p x)
theorem fN{T N:Int→Nat}{p:Int→Bool}{x:Int}(h:p x=true):z6 T N p x=(.int x,.ref (T x)):=by unfold z6;rw[h];rfl
theorem wY{T N:Int→Nat}{p:Int→Bool}{x:Int}(h:p x=false):z6 T N p x=(.int x,.ref (N x)):=by unfold z6;rw[h];rfl
theorem oz{p:Int→Bool}{d:List Int}(ha:C0 p d=false){y:Int}(hy:y∈d):p y=true:=by
 cases q:p y with
 |true=>rfl
 |false=>exact absurd (XD.mp ha y hy) (by rw[q];decide)
theorem xy{g g':Int→V×V}{d:List Int}{x:Int}{e:V×V}(h:∀y∈d,g y=g' y)(he:g x=e):(d++[x]).map g=d.map g'++[e]:=by rw[TA,Tg h];exact bk (λe=>d.map g'++[e]) he
theorem aaS:∀x:Int,x∈U6→zg (bQ (JR x) 32) x=31∧zg (bQ (GY x) 50) x=49:=by decide+kernel
theorem ajS{d:List Int}{x:Int}(hx:x∈U6)(hd:∀y∈d,y∈U6)(ha:C0 p d=false)(h:p x=false):((d++[x]).map (fV I p)).map (λe=>(e.1,e.2.bM (bQ (JR x) 32)))=d.map (fV I p)++[(.int x,.ref 31)]:=by
 refine(sV p _ _).trans (xy (λy hy=> ?_) ?_)
 ·unfold fV;rw[fN (oz ha hy),fN (oz ha hy),(Js x hx y (hd y hy)).1]
 ·unfold fV;rw[wY h,(aaS x hx).1]
theorem ajw{d:List Int}{x:Int}(hx:x∈U6)(hd:∀y∈d,y∈U6)(hn:x∉d)(h:p x=false):((d++[x]).map (fV I p)).map (λe=>(e.1,e.2.bM (bQ (GY x) 50)))=d.map (fV I p)++[(.int x,.ref 49)]:=by
 refine(sV p _ _).trans (xy (λy hy=> ?_) ?_)
 ·obtain⟨_,h1,h2⟩:=Js x hx y (hd y hy)
  have h2:=h2.resolve_left λe=>hn (e▸hy);unfold fV z6;rw[h1,h2]
 ·unfold fV;rw[wY h,(aaS x hx).2]
theorem IV{d:List Int}{x:Int}(hp:p x=true):vY p d=vY p (d++[x]):=funext λi=>by
 unfold vY;by_cases c:(i:Int)∈d
 ·rw[aC c,aC (Vn _ c)]
 ·rw[aH c]
  by_cases z:(i:Int)=x
  ·rw[z,hp,Yg,V9,V9]
  ·rw[aH λm=>(TQ.mp m).elim c λm=>z (Tp.mp m)]
theorem Dj(T N:Int→Nat)(d:List Int)(x:Int):look (.int x) (d.map (z6 T N p))=if x∈d then some (.ref (cond (p x) (T x) (N x))) else none:=w6 _ x d
variable(hl:∀x∈l,x∈U6)(nd:l.Nodup)(hlen:l.length<ay)(hk:∀x:Int,x∈U6→k x.toNat=p x)
include hl nd hlen hk
theorem Qx{d xs:List Int}{x:Int}(e:d++x::xs=l):∃e' m,i9 (n+3) (.aA 5) (aY .bB 3).body [5,6,7] (.ref 27) (vi l) (.int x) (Gj L) (adS K lr k p t o ca L l d) e' m∧Nx 29 (.ref 27) (vi l) e' m (Gj L) (adS K lr k p t o ca L l (d++[x])):=by
 have hx:x∈U6:=hl x (e▸Vm _ SI);have hd:∀y∈d,y∈U6:= λy hy=>hl y (e▸Vn _ hy);have hn:x∉d:= λm=>(We.mp (e▸nd)).2.2 x m x SI rfl;have hs:(kindOf (.int x)=some .int∧(d.map (fV I p)).length<ay):=by refine⟨rfl,?_⟩;rw[Sy];refine Sz ?_ hlen;rw[←e,S4];exact SV _ _
 have g1:uh (.int x) (vi (ah t.2.1))=some (t.2.1 x):=cz (by
  have hr:=mS.mp hx;cases q:t.2.1 x with
  |true=>exact aC (aL.mpr ⟨hr,q⟩)
  |false=>exact aH λm=>gg (q.symm.trans (aL.mp m).2))
 have g2:look (.int x) (rF I p)=if x∈ah p then some (.ref (l7 I x)) else none:=w6 _ x _;have g4:∀v,bR (.int x) v (d.map (fV I p))=d.map (fV I p)++[(.int x,v)]:= λv=>nH ((Dj p _ _ d x).trans (aJ hn));unfold adS;rw[B7];cases hp:p x with
 |true=>
  rw[aG (aL.mpr ⟨mS.mp hx,hp⟩)] at g2;have T:= λex=>Of (n+3) K (ud lr p t d) k p t o ca L l (d.map (fV I p)) ex x hx g1 g2 hs (g4 _);rw[pY ((hk x hx).trans hp),aaB lr p t hp,show(V.int x,V.ref (l7 I x))=fV I p x from(fN hp).symm,show d.map (fV I p)++[fV I p x]=(d++[x]).map (fV I p) from(TA (l₂:=[x])).symm] at T;rw[Yg,Vj,←IV p hp];exact⟨_,_,T _,.inl ⟨rfl,rfl⟩⟩
 |false=>
  rw[aJ λm=>gg (hp.symm.trans (aL.mp m).2)] at g2;rw[Xi,UR,←ac7 lr p t hp];have h0:=(mS.mp hx).1;cases ha:C0 p d with
  |false=>
   refine⟨_,_,Kg n K (ud lr p t d) k p t o ca L l (d.map (fV I p)) x hx g1 g2 hs (g4 _),?_⟩;rw[←Fz p h0 hp,wX p ha];exact nf0 K _ k p t o ca L l _ _ x hx (ajS p hx hd ha hp)
  |true=>
   refine⟨_,_,JQ n K (ud lr p t d) k p t o ca L (vY p d) l (d.map (fV I p)) x hx g1 g2 hs (g4 _),?_⟩;rw[←Fz p h0 hp];exact nf1 K _ k p t o ca L l _ _ (vY p d) x hx (ajw p hx hd hn hp)
theorem ae2:aq (zC (n+3) (aY .bB 3) (Gj L) (.ref 27) (adS K lr k p t o ca L l [])) (.next (Gj L)) (adS K lr k p t o ca L l l):=by
 have h:=rO.A6 (n:=n+3) (t:= .aA 5) (v:= .ref 27) (body:=(aY .bB 3).body) (bf:=[5,6,7]) (c:=V.int) (l:=l) (a:=([]:List Int)) (k:=29) (E:= λ_=>Gj L) (M:=adS K lr k p t o ca L l) (step:= λd x=>d++[x]) (I:= λd xs=>d++xs=l) rfl rfl (λ_=>rfl)
  (λd x xs e=>⟨by rw[Ud];exact e,Qx n K lr k p t o ca L l hl nd hlen hk e⟩) rfl
 rw[sY] at h;exact h
end
end
section
section
variable(n:Nat)(K:Int→Kn)(lr:Int→Bool)(k:Nat→Bool)(p:Int→Bool)(t:lY)(o:Int→Bool)(ca:Bool)(L:Int)
theorem Rj:ud lr p t []=lr:=funext λx=>aJ λh=>nomatch h.1
noncomputable def vJ(t:lY)(o:Int→Bool)(x:Int):Bool:=t.1 x||o x||t.2.1 x
theorem RQ:zG (ah t.1++ah o++ah t.2.1)=ah (vJ t o):=by refine xX (Cu _) (sd _) λx=> ?_;rw[tZ,TQ,TQ,aL,aL,aL,aL];unfold vJ;rw[UA,UA,←and_or_left,←and_or_left]
noncomputable abbrev adZ(l:List Int):ai:=sZ I K k p t o ca 47 28 (ud lr p t l) ([aj l,.dict .int (l.map (fV I p))]++(EG I L (vY p l) t.2.1++[dJ 48 49 50 51 ca,aj (ah t.1),aj (ah o),aj (ah t.2.1),aj (ah t.2.2)]))
noncomputable abbrev adY(l:List Int):ai:=sZ I K k p t o ca 29 28 (ud lr p t l) [aj l,.dict .int (l.map (fV I p)),dJ 30 31 32 33 ca,aj (ah t.1),aj (ah o),aj (ah t.2.1),aj (ah t.2.2)]
noncomputable def NI:List Nat:=Sw 29++(SR 18 27++[29,30,31,32,33])
noncomputable def al2:List Bool:=SR 29 true++(SR 18 false++SR 5 true)
theorem aaH:∀x∈U6,l7 (bQ NI 34) x=l7 I x:=by decide+kernel
theorem afO(l:List Int)(hl:∀x∈l,x∈U6)(ha:C0 p l=false):Mv 27 (bQ NI 34) [] (adY K lr k p t o ca l) [] (adZ K lr k p t o ca L l):=by
 have he:(l.map (fV I p)).map (λe=>(e.1,e.2.bM (bQ NI 34)))=l.map (fV I p):=(sV p _ _).trans (Tg λx hx=>by have hp:=oz ha hx;unfold fV;rw[fN hp,fN hp,aaH x (hl x hx)])
 have q:=(mq (bQ NI 34) K (ud lr p t l) k p t o ca 47 28 ([aj l,.dict .int (l.map (fV I p))]++(EG I L (vY p l) t.2.1++[dJ 48 49 50 51 ca,aj (ah t.1),aj (ah o),aj (ah t.2.1),aj (ah t.2.2)]))).trans (bk (sZ _ K k p t o ca _ _ _) (ec (az _ _) (ec (bk (O.dict .int) he) ((sI _ t.2.1 L _ _).trans (bk _ (ec rfl (ec (az _ _) (ec (az _ _) (ec (az _ _) (ec (az _ _) rfl))))))))));unfold adZ;rw[wX p ha] at q⊢;exact Mv.Lz (m:=adY K lr k p t o ca l) (d9:=NI) (al:=al2) (by kernel_rfl) rfl q rfl rfl (by kernel_rfl)
variable(ck:MH t o ca)(hk:∀x:Int,x∈U6→k x.toNat=p x)
include ck hk
theorem Py:aq (aE (n+4) .bB [.ref 0,.ref 1,.int L] (sZ I K k p t o ca 2 8 lr [])) .none (adZ K lr k p t o ca L (ah (vJ t o))):=by
 have h1:=n8 n _ _ _ _ _ ck 1 4 5 6 7 rfl;have h2:=GK (n+1) (ah t.1) (ah o) (ah t.2.1) (ah t.2.2) ca ck.len 1 4 5 6 7 rfl;rw[RQ] at h2;have h3:=ae2 n K lr k p t o ca L (ah (vJ t o)) (λx h=>dw h) (FU _) (Sz (cQ _) (by decide)) hk;generalize hm:ah (vJ t o)=l at*;have hl:∀x∈l,x∈U6:= λx h=>dw (hm▸h);unfold adS at h3;rw[Rj] at h3;cases ha:C0 p l with
 |true=>
  rw[ha] at h3;exact gF rfl (kR 1 h1<|jE 1 h2<|kF 0 h3<|jE 8 (bZ n t.1 4)<|jE 0 (bZ n o 5)<|jE 0 (bZ n t.2.1 6)<|jE 0 (bZ n t.2.2 7)<|kE)
 |false=>
  rw[ha] at h3;have q:aq (aE (n+4) .bB [.ref 0,.ref 1,.int L] (sZ I K k p t o ca 2 8 lr [])) .none (adY K lr k p t o ca l):=gF rfl (kR 1 h1<|jE 1 h2<|kF 0 h3<|jE 8 (bZ n t.1 4)<|jE 0 (bZ n o 5)<|jE 0 (bZ n t.2.1 6)<|jE 0 (bZ n t.2.2 7)<|kE);exact nE q (afO K lr k p t o ca L l hl ha) rfl
end
end
section
noncomputable def mJ(A:Nat→Nat)(x:Int):Nat:=Am (A 13) [A 14,A 15,A 16,A 17,A 18] x.toNat
noncomputable def x8(A:Nat→Nat)(x:Int):Nat:=Am (A 20) [A 21,A 22,A 23,A 24,A 25] x.toNat
noncomputable def vn(A:Nat→Nat)(p:Int→Bool):List (V×V):=(ah p).map λj=>(.int j,.ref (mJ A j))
noncomputable abbrev fc(A:Nat→Nat)(p:Int→Bool)(x:Int):V×V:=z6 (mJ A) (x8 A) p x
section
variable(A:Nat→Nat)(n:Nat)(s:St)(p:Int→Bool)
noncomputable abbrev zM(A':Nat→Nat)(es:List (V×V))(ex:ai):ai:=[wO A' s,aj (tl s.av),aj (tl s.aI),.dict .int (vn A p),.aM,.aM,.aM,.aM,.aM,.aM,.aM,.aM,.aM,.aM,.aM,.aM,.aM,.aM,.aM,.dict .int es]++ex
noncomputable abbrev CP(fr:Nat→Bool):ai:=[lv (fr 0) (ry (m8 s.c9)),lv (fr 1) (ry (m8 s.c9)),lv (fr 2) (ry (m8 s.c9)),lv (fr 3) (ry (m8 s.c9)),lv (fr 4) (ry (m8 s.c9)),lv (fr 5) (ry (m8 s.c9))]
noncomputable abbrev LQ:List V:=[.ref 0,.ref 19,.af]
abbrev xR(x:Int)(es es':List (V×V))(ex ex':ai):Prop:=i9 n (.aA 2) (aY .cN 1).body [2] (.range 0 6) (vi U6) (.int x) LQ (zM I s p I es ex) LQ (zM I s p I es' ex')
theorem Sf(es:List (V×V))(ex:ai):∀xj:Int,xj∈U6→some (decide (0<s.av xj))=some false→om (.int (s.aI xj)) (.int 1) []=some false→xR n s p xj es es ex ex:=by intro xj hx g1 g2;exact JN (λ_=>j8 2 g1<|j8 3 g2<|OO 1 (some (vi U6))<|zF) (by clear g1 g2;revert xj;exact o7 (by kernel_rfl))
noncomputable abbrev rN(ex:ai):V:= .ref (ex.length+20)
def LpN(es:List (V×V))(ex:ai)(x:Int):Prop:=look (.int x) (vn I p)=none∧(kindOf (.int x)=some .int∧es.length<ay)∧bR (.int x) (rN ex) es=es++[(.int x,rN ex)]
def LpO(es:List (V×V))(ex:ai)(x:Int):Prop:=look (.int x) (vn I p)=some (.ref (mJ I x))∧(kindOf (.int x)=some .int∧es.length<ay)∧bR (.int x) (rN ex) es=es++[(.int x,rN ex)]∧
 (kindOf (.int x)=some .int∧(es++[(V.int x,rN ex)]).length<ay)∧bR (.int x) (.ref (mJ I x)) (es++[(V.int x,rN ex)])=es++[(.int x,.ref (mJ I x))]
theorem QT(es:List (V×V))(ex:ai):∀xj:Int,xj∈U6→some (decide (0<s.av xj))=some true→LpO p es ex xj→xR n s p xj es (es++[(.int xj,.ref (mJ I xj))]) ex (ex++[ry (m8 s.c9)]):=by intro xj hx g1 h;obtain⟨h2,h3,h4,h5,h6⟩:=h;exact JN (λ_=>j8 2 g1<|qQ 5 h3 h4<|j8 1 (j3 h2)<|jj 2 h2<|qQ 0 h5 h6<|OO 0 (some (vi U6))<|zF) (by clear g1 h2 h3 h4 h5 h6;revert xj;exact o7 (by kernel_rfl))
theorem aaz(es:List (V×V))(ex:ai):∀xj:Int,xj∈U6→some (decide (0<s.av xj))=some false→om (.int (s.aI xj)) (.int 1) []=some true→LpO p es ex xj→xR n s p xj es (es++[(.int xj,.ref (mJ I xj))]) ex (ex++[ry (m8 s.c9)]):=by intro xj hx g1 g2 h;obtain⟨h2,h3,h4,h5,h6⟩:=h;exact JN (λ_=>j8 2 g1<|j8 3 g2<|qQ 4 h3 h4<|j8 1 (j3 h2)<|jj 2 h2<|qQ 0 h5 h6<|OO 0 (some (vi U6))<|zF) (by clear g1 g2 h2 h3 h4 h5 h6;revert xj;exact o7 (by kernel_rfl))
theorem QH(es:List (V×V))(ex:ai):∀xj:Int,xj∈U6→some (decide (0<s.av xj))=some true→LpN p es ex xj→xR n s p xj es (es++[(.int xj,rN ex)]) ex (ex++[ry (m8 s.c9)]):=by intro xj hx g1 h;obtain⟨h2,h3,h4⟩:=h;exact JN (λ_=>j8 2 g1<|qQ 5 h3 h4<|j8 1 (j3 h2)<|OO 1 (some (vi U6))<|zF) (by clear g1 h2 h3 h4;revert xj;exact o7 (by kernel_rfl))
theorem QU(es:List (V×V))(ex:ai):∀xj:Int,xj∈U6→some (decide (0<s.av xj))=some false→om (.int (s.aI xj)) (.int 1) []=some true→LpN p es ex xj→xR n s p xj es (es++[(.int xj,rN ex)]) ex (ex++[ry (m8 s.c9)]):=by intro xj hx g1 g2 h;obtain⟨h2,h3,h4⟩:=h;exact JN (λ_=>j8 2 g1<|j8 3 g2<|qQ 4 h3 h4<|j8 1 (j3 h2)<|OO 1 (some (vi U6))<|zF) (by clear g1 g2 h2 h3 h4;revert xj;exact o7 (by kernel_rfl))
end
end
section
section
variable(f:Nat→Nat)(s:St)(p:Int→Bool)
theorem AN:O.bM f (.dict .int (vn I p))=.dict .int (vn f p):=bk (O.dict .int) ((T4 ..).trans (Tg λj _=>bk (λa=>(V.int j,V.ref a)) (qk f ..)))
theorem lC(d:List Int):(d.map (fc I p)).map (λe=>(e.1,e.2.bM f))=d.map (fc f p):=(T4 ..).trans (Tg λx _=>by refine bk (λa=>(V.int x,V.ref a)) ?_;cases p x<;>exact qk f ..)
theorem xq(A:Nat→Nat)(es:List (V×V))(ex:ai):(zM I s p A es ex).map (O.bM f)=zM f s p (λi=>f (A i)) (es.map λe=>(e.1,e.2.bM f)) (ex.map (O.bM f)):=ec rfl<|ec (az f _)<|ec (az f _)<|ec (AN f p) rfl
theorem qH(fr:Nat→Bool):(CP s fr).map (O.bM f)=CP s fr:=ec (bl f _ rfl)<|ec (bl f _ rfl)<|ec (bl f _ rfl)<|ec (bl f _ rfl)<|ec (bl f _ rfl)<|ec (bl f _ rfl) rfl
end
noncomputable def muA(x:Int):List Nat:=Sw 20++SR 6 20
noncomputable def alA(x:Int):List Bool:=SR 20 true++(Sw 6).map λi=>SA i x.toNat
noncomputable def muB(x:Int):List Nat:=Sw 20++(Sw 6).map λi=>cond (SA i x.toNat) 26 (20+i)
theorem qj:∀j∈U6,∀x∈U6,mJ (bQ (muA j) 21) x=mJ I x∧mJ (bQ (muB j) 27) x=mJ I x∧(x=j∨x8 (bQ (muB j) 27) x=x8 I x)∧x8 (bQ (muA j) 21) j=20∧x8 (bQ (muB j) 27) j=26∧mJ (bQ (Sw 20) 21) x=mJ I x∧mJ (bQ (Sw 26) 27) x=mJ I x∧x8 (bQ (Sw 26) 27) x=x8 I x:=by decide+kernel
section
variable(n:Nat)(s:St)(p:Int→Bool)
noncomputable def lpS(d:List Int):ai:=zM I s p I (d.map (fc I p)) (cond (C0 p d) (CP s (vY p d)) [])
abbrev LNx(es es':List (V×V))(ex ex':ai):Prop:=Nx 20 (.range 0 6) (vi U6) LQ (zM I s p I es ex) LQ (zM I s p I es' ex')
theorem aau{f:Nat→Nat}{es es':List (V×V)}{ex ex':ai}(he:es'.map (λe=>(e.1,e.2.bM f))=es)(hx:ex'.map (O.bM f)=ex):(zM I s p I es' ex').map (O.bM f)=zM f s p f es ex:=(xq f s p I es' ex').trans (by rw[he,hx])
theorem ln0(es es':List (V×V)):∀x:Int,x∈U6→es'.map (λe=>(e.1,e.2.bM (bQ (muA x) 21)))=es→LNx s p es es' [ry (m8 s.c9)] (CP s (beN x λ_=>false)):=by intro x hx he;have q:=aau s p he (qH (bQ (muA x) 21) s (beN x λ_=>false));refine .inr ⟨_,Mv.Lz (m:=zM I s p I es [ry (m8 s.c9)]) (d9:=muA x) (al:=alA x) ?_ rfl q ?_ rfl ?_,rfl,rfl⟩<;>clear q he<;>revert x<;>exact C6 (by kernel_rfl)
theorem ln1(fr:Nat→Bool)(es es':List (V×V)):∀x:Int,x∈U6→es'.map (λe=>(e.1,e.2.bM (bQ (muB x) 27)))=es→LNx s p es es' (CP s fr++[ry (m8 s.c9)]) (CP s (beN x fr)):=by intro x hx he;have q:=aau s p he (qH (bQ (muB x) 27) s (beN x fr));refine .inr ⟨_,Mv.Lz (m:=zM I s p I es (CP s fr++[ry (m8 s.c9)])) (d9:=muB x) (al:=SR 26 true) ?_ rfl q ?_ rfl ?_,rfl,rfl⟩<;>clear q he<;>revert x<;>exact C6 (by kernel_rfl)
theorem lo0(es:List (V×V))(he:es.map (λe=>(e.1,e.2.bM (bQ (Sw 20) 21)))=es):LNx s p es es [ry (m8 s.c9)] []:=
 .inr ⟨_,Mv.Lz (m:=zM I s p I es [ry (m8 s.c9)]) (d9:=Sw 20) (al:=SR 20 true) (by kernel_rfl) rfl (aau s p he rfl) (by kernel_rfl) rfl (by kernel_rfl),rfl,rfl⟩
theorem lo1(fr:Nat→Bool)(es:List (V×V))(he:es.map (λe=>(e.1,e.2.bM (bQ (Sw 26) 27)))=es):LNx s p es es (CP s fr++[ry (m8 s.c9)]) (CP s fr):=
 .inr ⟨_,Mv.Lz (m:=zM I s p I es (CP s fr++[ry (m8 s.c9)])) (d9:=Sw 26) (al:=SR 26 true) (by kernel_rfl) rfl (aau s p he (qH _ s fr)) (by kernel_rfl) rfl (by kernel_rfl),rfl,rfl⟩
variable{d:List Int}{x:Int}(hx:x∈U6)(hd:∀y∈d,y∈U6)
include hx hd
theorem rt0(ha:C0 p d=false)(h:p x=false):((d++[x]).map (fc I p)).map (λe=>(e.1,e.2.bM (bQ (muA x) 21)))=d.map (fc I p)++[(.int x,.ref 20)]:=by
 refine(lC _ p _).trans (xy (λy hy=> ?_) ?_)
 ·unfold fc;rw[fN (oz ha hy),fN (oz ha hy),(qj x hx y (hd y hy)).1]
 ·unfold fc;rw[wY h,(qj x hx x hx).2.2.2.1]
theorem rt1(hn:x∉d)(h:p x=false):((d++[x]).map (fc I p)).map (λe=>(e.1,e.2.bM (bQ (muB x) 27)))=d.map (fc I p)++[(.int x,.ref 26)]:=by
 refine(lC _ p _).trans (xy (λy hy=> ?_) ?_)
 ·obtain⟨_,h1,h2,_⟩:=qj x hx y (hd y hy)
  have h2:=h2.resolve_left λe=>hn (e▸hy);unfold fc z6;rw[h1,h2]
 ·unfold fc;rw[wY h,(qj x hx x hx).2.2.2.2.1]
omit hx
theorem rt2(ha:C0 p d=false):(d.map (fc I p)).map (λe=>(e.1,e.2.bM (bQ (Sw 20) 21)))=d.map (fc I p):=(lC _ p _).trans (Tg λy hy=>by unfold fc;rw[fN (oz ha hy),fN (oz ha hy),(qj 0 SI y (hd y hy)).2.2.2.2.2.1])
theorem rt3:(d.map (fc I p)).map (λe=>(e.1,e.2.bM (bQ (Sw 26) 27)))=d.map (fc I p):=(lC _ p _).trans (Tg λy hy=>by obtain⟨_,_,_,_,_,_,h1,h2⟩:=qj 0 SI y (hd y hy);unfold fc z6;rw[h1,h2])
end
end
section
theorem F9{es:List (V×V)}{k a b:V}(h:look k es=none):bR k b (es++[(k,a)])=es++[(k,b)]:=by
 induction es with
 |nil=>exact aG rfl
 |cons e es ih=>
  rw[lg] at h;by_cases c:e.1=k
  ·rw[aG c] at h;exact nomatch h
  ·rw[aJ c] at h
   exact(aJ c).trans (bk (e:: ·) (ih h))
section
variable(n:Nat)(s:St)(p:Int→Bool)
theorem QW{d:List Int}{x:Int}(hx:x∈U6)(hd:∀y∈d,y∈U6)(hn:x∉d)(hl:d.length<100)(hm:ao s x=true):∃m,i9 n (.aA 2) (aY .cN 1).body [2] (.range 0 6) (vi U6) (.int x) LQ (lpS s p d) LQ m∧Nx 20 (.range 0 6) (vi U6) LQ m LQ (lpS s p (d++[x])):=by
 have nw:∀b,decide (0<s.av x)=b→some (decide (0<s.av x))=some b:= λ_=>bk some;have ws:¬0<s.av x→om (.int (s.aI x)) (.int 1) []=some true:= λc=>aT (by unfold ao at hm;rw[aH c,V0] at hm;exact hm)
 have TO:∀es ex,LpO p es ex x→xR n s p x es (es++[(.int x,.ref (mJ I x))]) ex (ex++[ry (m8 s.c9)]):= λes ex g=>
  if c:0<s.av x then QT n s p es ex x hx (nw _ (aC c)) g else aaz n s p es ex x hx (nw _ (aH c)) (ws c) g
 have TN:∀es ex,LpN p es ex x→xR n s p x es (es++[(.int x,rN ex)]) ex (ex++[ry (m8 s.c9)]):= λes ex g=>
  if c:0<s.av x then QH n s p es ex x hx (nw _ (aC c)) g else QU n s p es ex x hx (nw _ (aH c)) (ws c) g
 have hk:look (.int x) (d.map (fc I p))=none:=(Dj p _ _ d x).trans (aJ hn);have hs:∀k,k≤101→k<ay:= λk h=>Sz h (by decide);have l1:(d.map (fc I p)).length<ay:=by rw[Sy];exact hs _ (SG (Tv hl) (by decide))
 have g2:look (.int x) (vn I p)=if x∈ah p then some (.ref (mJ I x)) else none:=w6 _ x _;have hU:=mS.mp hx;unfold lpS;rw[B7];cases hp:p x with
 |true=>
  rw[aG (aL.mpr ⟨hU,hp⟩)] at g2;have es':d.map (fc I p)++[(.int x,.ref (mJ I x))]=(d++[x]).map (fc I p):=by rw[show(V.int x,V.ref (mJ I x))=fc I p x from(fN hp).symm];exact(TA (l₂:=[x])).symm
  have l2:∀v,(d.map (fc I p)++[(V.int x,v)]).length<ay:= λv=>by rw[S4,Sy];exact hs _ (TZ (Tv hl))
  have T:= λex=>TO (d.map (fc I p)) ex ⟨g2,⟨rfl,l1⟩,nH hk,⟨rfl,l2 _⟩,F9 hk⟩;rw[es'] at T;have hd':∀y∈d++[x],y∈U6:= λy hy=>(TQ.mp hy).elim (hd y) λm=>(Tp.mp m).symm▸hx;rw[Yg,Vj,←IV p hp];cases ha:C0 p d with
  |false=>exact⟨_,T [],lo0 s p _ (rt2 p hd' (by rw[B7,ha,hp];rfl))⟩
  |true=>exact⟨_,T _,lo1 s p _ _ (rt3 p hd')⟩
 |false=>
  rw[aJ λm=>gg (hp.symm.trans (aL.mp m).2)] at g2;have T:= λex=>TN (d.map (fc I p)) ex ⟨g2,⟨rfl,l1⟩,nH hk⟩;rw[Xi,UR,←Fz p hU.1 hp];cases ha:C0 p d with
  |false=>
   refine⟨_,T [],?_⟩;rw[wX p ha];exact ln0 s p _ _ x hx (rt0 p hx hd ha hp)
  |true=>exact⟨_,T _,ln1 s p _ _ _ x hx (rt1 p hx hd hn hp)⟩
noncomputable def lpT(s:St)(d:List Int)(x:Int):List Int:=if ao s x=true then d++[x] else d
theorem Ox(l:List Int):∀d,l.foldl (lpT s) d=d++l.filter (ao s):=by
 induction l with
 |nil=>exactλd=>(UU d).symm
 |cons x l ih=>
  intro d;show l.foldl (lpT s) (lpT s d x)=_;rw[ih,T6];unfold lpT;cases ao s x with
  |true=>rw[aG rfl,aG rfl,Ud];rfl
  |false=>rfl
theorem aeQ:aq (zC n (aY .cN 1) LQ (.range 0 6) (zM I s p I [] [])) (.next LQ) (lpS s p (ah (ao s))):=by
 have h:=rO.A6 (n:=n) (t:= .aA 2) (v:= .range 0 6) (body:=(aY .cN 1).body) (bf:=[2]) (c:=V.int) (l:=U6) (a:=([]:List Int)) (k:=20) (E:= λ_=>LQ) (M:=lpS s p) (step:=lpT s) (I:= λd xs=>(∀y∈d++xs,y∈U6)∧(d++xs).Nodup∧(d++xs).length<100) rfl ⟨λ_ h=>h,by decide,by decide⟩ (λ_=>rfl)
  (λd x xs ⟨h1,h2,h3⟩=>by
   have hx:x∈U6:=h1 x (Vm _ SI);unfold lpT;cases hm:ao s x with
   |true=>
    rw[aG rfl];obtain⟨m,T,g⟩:=QW n s p hx (λy hy=>h1 y (Vn _ hy)) (λm=>(We.mp h2).2.2 x m x SI rfl) (Sz (by rw[S4];exact SV _ _) h3) hm;rw[List.append_cons] at h1 h2 h3;exact⟨⟨h1,h2,h3⟩,_,_,T,g⟩
   |false=>
    rw[aJ Tc];have sl:(d++xs).Sublist (d++x::xs):=aq3 (List.sublist_cons_self _ _) _;refine⟨⟨λy hy=>h1 y (sl.subset hy),h2.sublist sl,Sz sl.length_le h3⟩,_,_,?_,.inl ⟨rfl,rfl⟩⟩;unfold ao at hm;rw[Wc] at hm;exact Sf n s p _ _ x hx (bk some hm.1) (aT hm.2)) rfl
 rw[Ox] at h;exact h
noncomputable def A3(i:Nat):Nat:=cond (SA i 3) 19 i
noncomputable abbrev lpB:ai:=[wO I s,aj (tl s.av),aj (tl s.aI),.dict .int (vn I p),.aM,.aM,.aM,.aM,.aM,.aM,.aM,.aM,.aM,.aM,.aM,.aM,.aM,.aM,.aM]
noncomputable abbrev lpZ(d:List Int):ai:=zM I s p A3 (d.map (fc I p)) (CP s (vY p d))
noncomputable def muC:List Nat:=Sw 20++SR 6 19
noncomputable def alC:List Bool:=SR 20 true++SR 6 false
theorem Rt:∀x∈U6,mJ (bQ muC 20) x=mJ I x:=by decide+kernel
theorem aia(d:List Int)(hd:∀x∈d,x∈U6)(ha:C0 p d=false):Mv 19 (bQ muC 20) [] (zM I s p A3 (d.map (fc I p)) []) [] (lpZ s p d):=by
 have he:(d.map (fc I p)).map (λe=>(e.1,e.2.bM (bQ muC 20)))=d.map (fc I p):=(lC _ p _).trans (Tg λx hx=>by unfold fc;rw[fN (oz ha hx),fN (oz ha hx),Rt x (hd x hx)])
 have q:=(xq (bQ muC 20) s p A3 (d.map (fc I p)) (CP s (vY p d))).trans (by rw[he,qH]);unfold lpZ;rw[wX p ha] at q⊢;exact Mv.Lz (m:=zM I s p A3 (d.map (fc I p)) []) (d9:=muC) (al:=alC) (by kernel_rfl) rfl q rfl (by kernel_rfl) (by kernel_rfl)
theorem DK:aq (aE (n+1) .cN [.ref 0] (lpB s p)) .none (lpZ s p (ah (ao s))):=by
 have h:=aeQ n s p;generalize hm:ah (ao s)=d at*;have hd:∀x∈d,x∈U6:= λx h=>dw (hm▸h);unfold lpS at h;cases ha:C0 p d with
 |true=>
  rw[ha] at h;exact gF rfl (kF 1 h<|kE)
 |false=>
  rw[ha] at h;have q:aq (aE (n+1) .cN [.ref 0] (lpB s p)) .none (zM I s p A3 (d.map (fc I p)) []):=gF rfl (kF 1 h<|kE);exact nE q (aia s p d hd ha) rfl
end
end
section
section
variable(n:Nat)(st:List (Int×Int))(tr:Int)(ca:Bool)(t:lY)(o:Int→Bool)
noncomputable abbrev apK(al:Bool)(v o' l x:List Int):ai:=l5 st tr ca t o [dJ 8 9 10 11 al,aj v,aj o',aj l,aj x]
abbrev uZ(n:Nat)(v:V)(m:ai):Prop:=aq (aE n .bG [.ref 0,.ref 5] (l5 st tr ca t o [])) v m
theorem xV{m:ai}(a b c d:Nat)(al:Bool)(v o' l x:List Int)(h:uZ st tr ca t o n (.ref 8) m)
  (hm:([0,1,2,3,4,5,6,8,a,b,c,d].zip (SR 12 true)).map (λp=>cond p.2 ((m.get p.1).getD .aM) .aM)=[dJ 1 2 3 4 ca,aj (ah t.1),aj (ah o),aj (ah t.2.1),aj (ah t.2.2),ccO tr 6,bK st,dJ a b c d al,aj v,aj o',aj l,aj x])
  (k3:(m.take 7).map O.live=SR 7 true)
  (hb:(ndM [0,1,2,3,4,5,6,8,a,b,c,d] (SR 12 true)&&([0,1,2,3,4,5,6,8,a,b,c,d].all (λa=>S8 a m.length)&&[8,a,b,c,d].all (λa=>UC 7 a)))=true):uZ st tr ca t o n (.ref 7) (apK st tr ca t o al v o' l x):=
 nE h (Mv.Lz (n:=7) (ms:=apK st tr ca t o al v o' l x) hm rfl (ec rfl (ec (az _ _) (ec (az _ _) (ec (az _ _) (ec (az _ _) (ec rfl (ec (dK _ aR (λ_=>rfl) _) (ec rfl (ec (az _ _) (ec (az _ _) (ec (az _ _) (ec (az _ _) rfl)))))))))))) rfl k3.symm hb) rfl
noncomputable def MD:Option (lY×(Int→Bool)×Bool):=
 if tr=0∧st=[] then(if ah o=[] then none else some ((t.1,orP t.2.1 t.2.2,λ_=>false),(λ_=>false),false))
 else if ah o≠[] then none
 else if tr=0∧st.length=1 then(if ah (dO o t st).1=[] then none else some (dO o t st,o,ca))
 else if ah (dO t.1 t st).1=[] then none else some (dO t.1 t st,t.1,!decide (tr=2))
def MG(r:Option (lY×(Int→Bool)×Bool)):Prop:=match r with
 |none=> ∃ex,aE n .bG [.ref 0,.ref 5] (l5 st tr ca t o []) (λ_ _=>False) λm'=>m'=l5 st tr ca t o ex
 |some r=>uZ st tr ca t o n (.ref 7) (apK st tr ca t o r.2.2 (ah r.1.1) (ah r.2.1) (ah r.1.2.1) (ah r.1.2.2))
theorem aaL(t':lY)(al b:Bool)(h:uZ st tr ca t o n (.ref 8) (ajD st tr ca t o al b t'))(hb:b=false→t'=t):uZ st tr ca t o n (.ref 7) (apK st tr ca t o al (ah t'.1) (ah t.1) (ah t'.2.1) (ah t'.2.2)):=by
 cases b with
 |false=>rw[hb rfl] at h⊢;exact xV n st tr ca t o 9 13 11 12 al _ _ _ _ h rfl rfl rfl
 |true=>exact xV n st tr ca t o 14 13 15 16 al _ _ _ _ h rfl rfl rfl
theorem aeX(hs:l8 st)(ht:tr=0∨tr=1∨tr=2)(ck:MH t o ca)(Hp:ah t.1≠[])(hap:st.length=1→apart (ah t.1) (ah (dO o t st).1)≤1)(zB:∀r,MD st tr ca t o=some r→MH r.1 r.2.1 r.2.2):MG n.succ.succ.succ.succ.succ.succ.succ st tr ca t o (MD st tr ca t o):=by
 unfold MD at zB⊢;by_cases c1:tr=0∧st=[]
 ·obtain⟨rfl,rfl⟩:=c1
  rw[aG ⟨rfl,rfl⟩] at zB⊢;by_cases ho:ah o=[]
  ·rw[aG ho];exact⟨_,aeI n ca t o _ (ahV n [] 0 ca t o ck ho)⟩
  ·rw[aJ ho] at zB⊢
   exact xV _ [] 0 ca t o 9 16 14 15 false _ [] _ [] (ah0 n ca t o _ (agK n [] 0 ca t o ck ho Hp (zB _ rfl))) rfl rfl rfl
 rw[aJ c1] at zB⊢;have q0:tr=0→1≤st.length:= λe=>Vy.mpr λz=>c1 ⟨e,z⟩;by_cases ho:ah o=[]
 ·rw[aJ λz=>z ho] at zB⊢
  by_cases c2:tr=0∧st.length=1
  ·rw[aG c2] at zB⊢
   obtain⟨rfl,c2⟩:=c2;by_cases hv:ah (dO o t st).1=[]
   ·rw[aG hv]
    obtain⟨ex,h⟩:=L5 n st 0 ca t o hs ck ho Hp hv;exact⟨ex,Ji n st ca t o _ c2 h⟩
   ·rw[aJ hv] at zB⊢
    obtain⟨b,hb,h⟩:=aeW n st 0 ca t o hs ck ho Hp hv (hap c2) (zB _ rfl);have h:=aeN n st ca t o _ c2 h;show uZ _ _ _ _ _ _ _ (apK _ _ _ _ _ ca (ah (dO o t st).1) (ah o) _ _);cases b with
    |false=>rw[hb rfl] at h⊢;exact xV _ st 0 ca t o 9 10 11 12 ca _ _ _ _ h rfl rfl rfl
    |true=>exact xV _ st 0 ca t o 13 10 14 15 ca _ _ _ _ h rfl rfl rfl
  ·rw[aJ c2] at zB⊢
   have q2:tr=0→1<st.length:= λe=>Wl (q0 e) λz=>c2 ⟨e,z.symm⟩;by_cases hv:ah (dO t.1 t st).1=[]
   ·rw[aG hv]
    obtain⟨ex,h⟩:=OM n st tr ca (!decide (tr=2)) t o hs ck ho Hp hv;rcases ht with rfl|rfl|rfl
    ·exact⟨ex,OW n st ca t o _ (q2 rfl) h⟩
    ·exact⟨ex,M5 n st ca t o _ h⟩
    ·exact⟨ex,Nq n st ca t o _ h⟩
   ·rw[aJ hv] at zB⊢
    obtain⟨b,hb,h⟩:=aem n st tr ca (!decide (tr=2)) t o hs ck ho Hp hv (zB _ rfl);refine aaL _ st tr ca t o _ _ b ?_ hb;rcases ht with rfl|rfl|rfl
    ·exact agV n st ca t o _ (q2 rfl) h
    ·exact agg n st ca t o _ h
    ·exact ahF n st ca t o _ h
 ·rw[aG ho]
  by_cases c2:tr=0∧st.length=1
  ·obtain⟨rfl,c2⟩:=c2
   exact⟨_,Ji n st ca t o _ c2 (J0 n st 0 ca t o ck ho)⟩
  ·have q2:tr=0→1<st.length:= λe=>Wl (q0 e) λz=>c2 ⟨e,z.symm⟩
   have h:=KL n st tr ca (!decide (tr=2)) t o ck ho;rcases ht with rfl|rfl|rfl
   ·exact⟨_,OW n st ca t o _ (q2 rfl) h⟩
   ·exact⟨_,M5 n st ca t o _ h⟩
   ·exact⟨_,Nq n st ca t o _ h⟩
end
end
section
noncomputable abbrev Tb:=(Int→Int)×Option (Int→Int)×Bool
section
variable(n:Nat)(av aI:Int→Int)(st:List (Int×Int))(tr:Int)
noncomputable def RM:Option (Int→Int)→O|none=> .aM|some w=>aj (tl w)
noncomputable def ads(a b:Nat):Option (Int→Int)→Nat|none=>a|some _=>b
noncomputable abbrev afK(r:Tb):ai:=[aj (tl r.1),RM r.2.1,.list [.ref 3,.ref (ads 1 4 r.2.1),.bool r.2.2]]
abbrev ug(n:Nat)(v:V)(ex:ai):Prop:=aq (aE n .b9 [.ref 0,.ref 1,.int tr,.ref 2] (qu av aI st [])) v (qu av aI st ex)
noncomputable def CW:Option Tb:=
 if tr=0∧st=[] then(if 1∈tl aI then some (CN av,some λ_=>0,false) else none)
 else if 1∈tl aI then none
 else if tr=0∧st.length=1 then(if 1∈tl (iR av false st) then some (iR av false st,none,false) else none)
 else if 1∈tl (iR av true st) then some (iR av true st,some (MQ av),!decide (tr=2)) else none
def OH(r:Option Tb):Prop:=match r with
 |none=>ug av aI st tr n (.ref 3) [.list []]
 |some r=>ug av aI st tr n (.ref 5) (afK r)
theorem FZ(f:Nat→Nat)(ex:ai):(qu av aI st ex).map (O.bM f)=qu av aI st (ex.map (O.bM f)):=ec (az _ _) (ec (az _ _) (ec (dK _ aR (λ_=>rfl) _) rfl))
theorem HH{t:Int→Int}(h:ug av aI st tr n (.ref 4) [aj (tl t),.list []]):ug av aI st tr n (.ref 3) [.list []]:=
 nE h (Mv.Lz (n:=3) (m:=qu av aI st [aj (tl t),.list []]) (d9:=[0,1,2,4]) (al:=SR 4 true) rfl rfl (FZ av aI st _ [.list []]) rfl rfl rfl) rfl
theorem agl{t:Int→Int}(h:ug av aI st tr n (.ref 4) [aj (tl t),.list [.ref 3,.ref 1,.bool false]]):ug av aI st tr n (.ref 5) (afK (t,none,false)):=
 nE h (Mv.Lz (n:=3) (m:=qu av aI st [aj (tl t),.list [.ref 3,.ref 1,.bool false]]) (d9:=[0,1,2,3,3,4]) (al:=[true,true,true,true,false,true]) rfl rfl ((FZ av aI st _ (afK (t,none,false))).trans (bk (qu av aI st) (ec (az _ _) (ec rfl (ec rfl rfl))))) rfl rfl rfl) rfl
theorem ac0(hs:l8 st)(ht:0≤tr):OH (n+1) av aI st tr (CW av aI st tr):=by
 unfold CW;by_cases c1:tr=0∧st=[]
 ·obtain⟨rfl,rfl⟩:=c1
  rw[aG ⟨rfl,rfl⟩];by_cases hj:1∈tl aI
  ·rw[aG hj];exact afD n av aI (aC hj)
  ·rw[aJ hj];exact aeD n av aI (aH hj)
 rw[aJ c1];have q0:tr=0→1≤st.length:= λe=>Vy.mpr λz=>c1 ⟨e,z⟩;by_cases hj:1∈tl aI
 ·rw[aG hj]
  by_cases c:tr=0
  ·subst c;exact adQ n av aI st (aC hj) λz=>c1 ⟨rfl,z⟩
  ·exact adz n av aI st tr (aC hj) c
 rw[aJ hj];have hj:=aH hj;by_cases c2:tr=0∧st.length=1
 ·rw[aG c2]
  obtain⟨rfl,c2⟩:=c2;by_cases h1:1∈tl (iR av false st)
  ·rw[aG h1];exact agl _ av aI st 0 (aky n av aI st hs hj c2 (aC h1))
  ·rw[aJ h1];exact HH _ av aI st 0 (ahP n av aI st hs hj c2 (aH h1))
 rw[aJ c2];by_cases c:tr=0
 ·subst c
  have q2:1<st.length:=Wl (q0 rfl) λz=>c2 ⟨rfl,z.symm⟩;by_cases h1:1∈tl (iR av true st)
  ·rw[aG h1];exact akZ n av aI st hs hj q2 (aC h1)
  ·rw[aJ h1];exact HH _ av aI st 0 (af9 n av aI st hs hj q2 (aH h1))
 ·have h0:0<tr:=Int.lt_iff_le_and_ne.mpr ⟨ht,λz=>c z.symm⟩
  by_cases h1:1∈tl (iR av true st)
  ·rw[aG h1];exact ajZ n av aI st tr hs hj h0 (aC h1)
  ·rw[aJ h1];exact HH _ av aI st tr (ag8 n av aI st tr hs hj h0 (aH h1))
end
end
section
noncomputable def cOf(y:Int)(k:Nat):Int:=y/48/24^k%24
noncomputable def Sb(y:Int)(k:Nat):Int×Int:=(cOf y k%4,cOf y k/4%6)
theorem aih(k:Nat)(hk:k<3):(Op.nC .pow 24 (k:Int)).map V.int=some (.int (24^k)):=by unfold Op.nC;show Ua V.int (if 0≤(24:Int)∧(24:Int)<256∧0≤(k:Int)∧(k:Int)<64 then some ((24:Int)^(k:Int).toNat) else none)=_;rw[aG ⟨by decide,by decide,Tw k,TH.mpr (SM hk (by decide))⟩];rfl
theorem ae7(a:Int)(k:Nat)(hk:k<3):(Op.nC .fdiv a (24^k)).map V.int=some (.int (a/24^k)):=by
 rcases k with _|_|_|k
 ·exact bw a 1
 ·exact bw a 24
 ·exact bw a 576
 ·exact absurd hk (TL.mpr (Xa ..))
section
variable(n:Nat)(s:St)(y tr:Int)(ct:Nat)
noncomputable abbrev c8:O:=aj [1,1,2,0,3,1,0,2]
noncomputable abbrev c6:O:=aj [0,0,0,1,2,0]
noncomputable abbrev cM(ex:ai):ai:=mem s++([c8,c6]++ex)
noncomputable abbrev scE:List V:=[.ref 0,.int y,.int ct,.int tr,.ref 114,.af,.af,.af,.af]
noncomputable abbrev ri(n:Nat):List V:=(Sw n).map λk:Nat=> .int (k:Int)
theorem aaA(a:List (Int×Int))(k:Nat)(hk:k<3)(hl:a.length<100):i9 n (.aA 5) (aY .cg 5).body [5,6] (.range 0 ct) (ri ct) (.int k) (scE y tr ct) (cM s [bK a]) (scE y tr ct) (cM s [bK (a++[Sb y k])]):=
 have hi:aO (.range 0 ct) []=some (ri ct):=by show some ((Sw ((ct:Int)-0).toNat).map λn:Nat=>V.int (0+(n:Int)))=_;rw[YX,Ug];exact bk some (Tg λk _=>bk V.int (Zw _))
 gL (kV 0 (bw y 48)<|kV 0 (aih k hk)<|kV 0 (ae7 (y/48) k hk)<|kV 0 (aQ (y/48/24^k) 24)<|kV 1 (aQ (y/48/24^k%24) 4)<|kV 0 (bw (y/48/24^k%24) 4)<|kV 0 (aQ (y/48/24^k%24/4) 6)<|Hi 0 (jP (f:=aR) (SM hl (by decide:100<1048576))) (nI aR a (Sb y k))<|kG 0 hi<|kE)
theorem ux(hc:ct≤3):aq (zC n (aY .cg 5) (scE y tr ct) (.range 0 ct) (cM s [.list []])) (.next (scE y tr ct)) (cM s [bK ((Sw ct).map (Sb y))]):=by
 have h:=rO.nj (n:=n) (t:= .aA 5) (v:= .range 0 ct) (body:=(aY .cg 5).body) (bf:=[5,6]) (c:= λk:Nat=>V.int (k:Int)) (l:=Sw ct) (a:=([]:List Nat)) (E:= λ_=>scE y tr ct) (M:= λa=>cM s [bK (a.map (Sb y))]) (step:= λa x=>a++[x]) (I:= λa xs=>a++xs=Sw ct) (by
   show some ((Sw ((ct:Int)-0).toNat).map λn:Nat=>V.int (0+(n:Int)))=_;rw[YX,Ug];exact bk some (Tg λk _=>bk V.int (Zw _))) rfl (λ_=>rfl)
  λa x xs e=>⟨by rw[Ud];exact e,by have l:a.length≤3:=SG (SG (by rw[S4];exact SV _ _) (Te (bk Vx e))) (by rw[Uz];exact hc);have hx:x<3:=SX (UM.mp (e▸Vm _ SI)) hc;have T:=aaA n s y tr ct (a.map (Sb y)) x hx (by rw[Sy];exact Sz l (by decide));rw[show a.map (Sb y)++[Sb y x]=(a++[x]).map (Sb y) from(TA (l₂:=[x])).symm] at T;exact T⟩
 rw[sY] at h;exact h
noncomputable abbrev ccE:E:=match aY .o5 1 with
 |.setAttr _ _ e=>e
 |_=> .stuck
theorem JW(st:List (Int×Int))(hl:st.length<100)(a b:Nat)(M:ai)(hi:aO (.ref a) M=some (st.map aR)):aq (vM n ccE [.ref b,.int tr,.ref a,.bytes [],.af,.af] (.ref a) M) (.ref M.next) (M.push (bK st)):=by have h:=pq.fm (n:=n) (t:= .iJ [4,5]) (v:= .ref a) (cs:= .zn) (el:=ccE.el) (env:=[.ref b,.int tr,.ref a,.bytes [],.af,.af]) (m:=M) (c:=aR) (l:=st) (g:= λp=>some (aR p)) hi (SM hl (by decide)) λx _=>gC (kG 0 hi<|kE);rw[VP] at h;exact h
end
end
section
noncomputable def fq(t:Int→Int):lY:=(aA t,two t,bu t)
section
variable(n:Nat)(s:St)(st:List (Int×Int))(tr:Int)(r:Tb)
noncomputable abbrev afL(r:Tb):ai:=[aj (tl r.1),RM r.2.1,.list [.ref 115,.ref (ads 2 116 r.2.1),.bool r.2.2]]
theorem NR(f:Nat→Nat)(w:Option (Int→Int)):O.bM f (RM w)=RM w:=by cases w<;>first|rfl|exact az f _
theorem I8:Em (bQ [1,2,114] 115) (qu s.av s.aI st []) (cM s [bK st]):=
 Em.mask (d9:=[1,2,114]) (al:=[true,true,true]) (m:=cM s [bK st]) (by kernel_rfl) rfl (FZ s.av s.aI st _ []) rfl (by kernel_rfl)
theorem PS(h:OH n s.av s.aI st tr (some r)):aq (aE n .b9 [.ref 1,.ref 2,.int tr,.ref 114] (cM s [bK st])) (.ref 117) (cM s ([bK st]++afL r)):=by
 have k:=tH h (I8 s st);rw[show(afK r).map (O.bM (bQ [1,2,114] 115))=afL r from ec (az _ _) (ec (NR _ _) (ec (by obtain⟨a,w,b⟩:=r;cases w<;>rfl) rfl))] at k
 exact k
theorem Oa(h:OH n s.av s.aI st tr none):aq (aE n .b9 [.ref 1,.ref 2,.int tr,.ref 114] (cM s [bK st])) (.ref 115) (cM s [bK st,.list []]):=tH h (I8 s st)
noncomputable abbrev CS(ex:ai):ai:=cM s ([bK st]++(afL r++([ccO tr 119,bK st]++ex)))
noncomputable abbrev CO(ex:ai):ai:=cM s ([bK st,.list [],ccO tr 117,bK st]++ex)
theorem Iz(f:Nat→Nat)(ca:Bool)(t:lY)(o:Int→Bool):(l5 st tr ca t o []).map (O.bM f)=[dJ (f 1) (f 2) (f 3) (f 4) ca,aj (ah t.1),aj (ah o),aj (ah t.2.1),aj (ah t.2.2),ccO tr (f 6),bK st]:=ec rfl (ec (az _ _) (ec (az _ _) (ec (az _ _) (ec (az _ _) (ec rfl (ec (dK _ aR (λ_=>rfl) _) rfl))))))
noncomputable abbrev mdO(au:Bool)(v o l x:List Int):ai:=[dJ 121 122 123 124 au,aj v,aj o,aj l,aj x]
theorem NH(q:lY×(Int→Bool)×Bool)(h:MG n st tr s.gV (fq s.av) (aA s.aI) (some q)):aq (aE n .bG [.ref 13,.ref 118] (CS s st tr r [])) (.ref 120) (CS s st tr r (mdO q.2.2 (ah q.1.1) (ah q.2.1) (ah q.1.2.1) (ah q.1.2.2))):=by have E:Em (bQ [13,14,15,16,17,118,119] 120) (l5 st tr s.gV (fq s.av) (aA s.aI) []) (CS s st tr r []):=Em.mask (d9:=[13,14,15,16,17,118,119]) (al:=SR 7 true) (m:=CS s st tr r []) (by kernel_rfl) rfl (Iz st tr _ _ _ _) rfl (by kernel_rfl);have k:=tH h E;rw[show[dJ 8 9 10 11 q.2.2,aj (ah q.1.1),aj (ah q.2.1),aj (ah q.1.2.1),aj (ah q.1.2.2)].map (O.bM (bQ [13,14,15,16,17,118,119] 120))=mdO q.2.2 (ah q.1.1) (ah q.2.1) (ah q.1.2.1) (ah q.1.2.2) from ec rfl (ec (az _ _) (ec (az _ _) (ec (az _ _) (ec (az _ _) rfl))))] at k;exact k
theorem LL(h:MG n st tr s.gV (fq s.av) (aA s.aI) none):∃ex,aE n .bG [.ref 13,.ref 116] (CO s st tr []) (λ_ _=>False) λm'=>m'=CO s st tr ex:=by obtain⟨ex,h⟩:=h;have E:Em (bQ [13,14,15,16,17,116,117] 118) (l5 st tr s.gV (fq s.av) (aA s.aI) []) (CO s st tr []):=Em.mask (d9:=[13,14,15,16,17,116,117]) (al:=SR 7 true) (m:=CO s st tr []) (by kernel_rfl) rfl (Iz st tr _ _ _ _) rfl (by kernel_rfl);exact⟨_,Ko h E⟩
end
end
section
noncomputable def PV:List Nat:=[9,120,13,19,121,122,123,124,18,24,25,26,28,29,30,32,33,34,36,37,38,40,41,42,44,45,46]
noncomputable def adL:List Bool:=[true,true,false,false,true,true,true,true,true,true,true,true,true,true,true,true,true,true,true,true,true,true,true,true,true,true,true]
section
variable(n:Nat)(s:St)(st:List (Int×Int))(tr:Int)(r:Tb)(t:lY)(o:Int→Bool)(au:Bool)(M:ai)
noncomputable abbrev adN:ai:=[aj (ah (vJ t o)),.dict .int ((ah (vJ t o)).map (fV (bQ PV 125) (ao s)))]++(EG (bQ PV 125) s.c9 (vY (ao s) (ah (vJ t o))) t.2.1++[dJ 146 147 148 149 au,aj (ah t.1),aj (ah o),aj (ah t.2.1),aj (ah t.2.2)])
noncomputable def adT:ai:=((((((M.set 9 (trA (bQ PV 125) 145 126)).set 24 (lv (ao s 0) (pg (s.kn 0) (ud (two s.av) (ao s) t (ah (vJ t o)) 0) 25))).set 28 (lv (ao s 1) (pg (s.kn 1) (ud (two s.av) (ao s) t (ah (vJ t o)) 1) 29))).set 32 (lv (ao s 2) (pg (s.kn 2) (ud (two s.av) (ao s) t (ah (vJ t o)) 2) 33))).set 36 (lv (ao s 3) (pg (s.kn 3) (ud (two s.av) (ao s) t (ah (vJ t o)) 3) 37))).set 40 (lv (ao s 4) (pg (s.kn 4) (ud (two s.av) (ao s) t (ah (vJ t o)) 4) 41))).set 44 (lv (ao s 5) (pg (s.kn 5) (ud (two s.av) (ao s) t (ah (vJ t o)) 5) 45))++adN s t o au
noncomputable abbrev Ci:ai:=CS s st tr r (mdO au (ah t.1) (ah o) (ah t.2.1) (ah t.2.2))
theorem d8(b:Bool){o:O}(h:o.live=true):(lv b o).live=b:=by cases b<;>first|rfl|exact h
theorem DU(K:Int→Kn)(lr:Int→Bool)(k:Nat→Bool)(p:Int→Bool)(ca:Bool)(c pr:Nat):(sZ I K k p t o ca c pr lr []).map O.live=[true,true,false,false,true,true,true,true,true]++(k 0::k 0::k 0::k 1::k 1::k 1::k 2::k 2::k 2::k 3::k 3::k 3::k 4::k 4::k 4::k 5::k 5::k 5::[]):=
 bk ([true,true,false,false,true,true,true,true,true]++ ·) (bX (d8 _ rfl)<|bX (d8 _ rfl)<|bX (d8 _ rfl)<|bX (d8 _ rfl)<|bX (d8 _ rfl)<|bX (d8 _ rfl)<|bX (d8 _ rfl)<|bX (d8 _ rfl)<|bX (d8 _ rfl)<|bX (d8 _ rfl)<|bX (d8 _ rfl)<|bX (d8 _ rfl)<|bX (d8 _ rfl)<|bX (d8 _ rfl)<|bX (d8 _ rfl)<|bX (d8 _ rfl)<|bX (d8 _ rfl)<|bX (d8 _ rfl) rfl)
theorem Qw(b:Bool){o:O}(h:o.live=true)(o1 o2:O):cond (lv b o).live none (some (lv b o1))=cond (lv b o).live none (some (lv b o2)):=by
 cases b with
 |true=>rw[show(lv true o).live=true from h];rfl
 |false=>rfl
noncomputable abbrev aip:ai:=sZ I s.kn (λj:Nat=>ao s j) (ao s) t o au 2 8 (two s.av) []
noncomputable abbrev ait:ai:=adZ s.kn (two s.av) (λj:Nat=>ao s j) (ao s) t o au s.c9 (ah (vJ t o))
theorem aa6:Em (bQ PV 125) (aip s t o au) (Ci s st tr r t o au):=
 Em.mask (d9:=PV) (al:=adL) (m:=Ci s st tr r t o au) (by kernel_rfl) rfl (mq _ s.kn (two s.av) (λj:Nat=>ao s j) (ao s) t o au 2 8 []) rfl (by kernel_rfl)
theorem aan:(ait s t o au).map (O.bM (bQ PV 125))=sZ (bQ PV 125) s.kn (λj:Nat=>ao s j) (ao s) t o au 145 126 (ud (two s.av) (ao s) t (ah (vJ t o))) (adN s t o au):=
 (mq _ s.kn _ (λj:Nat=>ao s j) (ao s) t o au 47 28 _).trans (bk (sZ _ s.kn _ _ t o au _ _ _) (ec (az _ _) (ec (bk (O.dict .int) (sV _ _ _)) ((sI _ _ _ _ _).trans (bk _ (ec rfl (ec (az _ _) (ec (az _ _) (ec (az _ _) (ec (az _ _) rfl))))))))))
noncomputable def ajF:List Nat:=[1,4,5,6,7,8,10,11,13,14,16,17,19,20,22,23,25,26]
theorem abG:xm (bQ PV 125) (aip s t o au) (Ci s st tr r t o au) (ait s t o au) (adT s t o au (Ci s st tr r t o au)):=by
 refine abk (ajF++[0,9,12,15,18,21,24]) (aa6 s st tr r t o au) (TF rfl) ?_ (by kernel_rfl) (aan s t o au) (by kernel_rfl) (by kernel_rfl) (by kernel_rfl) (by kernel_rfl) ?_
 ·exact(WX (b:=(sZ I s.kn (λj:Nat=>ao s j) (ao s) t o au 47 28 (ud (two s.av) (ao s) t (ah (vJ t o))) []).map O.live) (by kernel_rfl) (DU t o _ _ _ _ _ _ _)).trans (DU t o s.kn (two s.av) (λj:Nat=>ao s j) (ao s) au 2 8).symm
 ·let g (lr:Int→Bool) (j:Nat):Option O:=cond (lv (ao s j) (pg (s.kn j) (two s.av j) (10+3*j))).live none (some (lv (ao s j) (pg (s.kn j) (lr j) (25+4*j))))
  have k:(Sw 6).map (g (ud (two s.av) (ao s) t (ah (vJ t o))))=(Sw 6).map (g (two s.av)):=Tg λj _=>Qw _ rfl _ _;rw[TA,TA];exact congr (bk _ (by kernel_rfl)) ((WX (b:=none::(Sw 6).map (g (ud (two s.av) (ao s) t (ah (vJ t o))))) (by kernel_rfl) (bk (none:: ·) k)).trans (by kernel_rfl))
theorem OI(ck:MH t o au):aq (aE (n+4) .bB [.ref 9,.ref 120,.int s.c9] (Ci s st tr r t o au)) .none (adT s t o au (Ci s st tr r t o au)):=
 qb (Py n s.kn (two s.av) (λj:Nat=>ao s j) (ao s) t o au s.c9 ck λx hx=>by rw[Wm (mS.mp hx).1]) (aa6 s st tr r t o au) (abG s st tr r t o au)
end
end
section
noncomputable def cU(s:St)(r:Tb):St:={s with av:=r.1,aI:=r.2.1.getD s.aI,gV:=r.2.2,kn:= λj=>if ao s j=true then s.kn j else m8 s.c9}
noncomputable def Aw(x i:Nat):Nat:=cond (SA i 1) 115 (cond (SA i 2) x i)
noncomputable def lpF(x:Nat):List Nat:=[0,115,x,3,4,5,6,7,8,9,10,11,12,23,27,31,35,39,43]
section
variable(n:Nat)(s:St)(st:List (Int×Int))(tr:Int)(r:Tb)
noncomputable abbrev xW:Nat:=ads 2 116 r.2.1
noncomputable abbrev chT:ai:=adT s (fq r.1) (aA (cU s r).aI) r.2.2 (Ci s st tr r (fq r.1) (aA (cU s r).aI) r.2.2)
noncomputable def chU:ai:=(((chT s st tr r).xd 121 (.list (vi (ah (aA r.1))++[.int 6]))).xd 122 (.list (vi (ah (aA (cU s r).aI))++[.int 6]))).xd 0 (wO (Aw (xW r)) (cU s r))
noncomputable abbrev lpV:ai:=[.dict .int ((ah (ao (cU s r))).map (fc (bQ (lpF (xW r)) 150) (ao s)))]++CP (cU s r) (vY (ao s) (ah (ao (cU s r))))
noncomputable def jj:ai:=(chU s st tr r).set 0 (wO (λi=>bQ (lpF (xW r)) 150 (A3 i)) (cU s r))++lpV s r
noncomputable def lpL:List Bool:=[true,true,true,true]++SR 15 false
theorem wZ(f:Nat→Nat)(p:Int→Bool):(lpB s p).map (O.bM f)=[wO f s,aj (tl s.av),aj (tl s.aI),.dict .int (vn f p)]++SR 15 .aM:=ec rfl<|ec (az f _)<|ec (az f _)<|ec (AN f p) rfl
theorem I3(f:Nat→Nat)(p:Int→Bool)(d:List Int):(lpZ s p d).map (O.bM f)=zM f s p (λi=>f (A3 i)) (d.map (fc f p)) (CP s (vY p d)):=(xq f s p A3 _ _).trans (by rw[lC,qH])
theorem Em.vz{d9:List Nat}{al:List Bool}{ms os m:ai}(N:Nat)(hN:m.length=N)(h:(d9.zip al).map (λp=>cond p.2 ((m.get p.1).getD .aM) .aM)=os)(ha:al.length=d9.length)(e:ms.map (O.bM (bQ d9 N))=os)(nd:ndM d9 al=true)(bd:d9.all (λa=>S8 a N)=true):Em (bQ d9 N) ms m:=by subst hN;exact Em.mask h ha e nd bd
theorem GP:aq (aE (n+1) .cN [.ref 0] (chU s st tr r)) .none (jj s st tr r):=by
 have E:Em (bQ (lpF (xW r)) 150) (lpB (cU s r) (ao s)) (chU s st tr r):=by
  obtain⟨nw,w,au⟩:=r;cases w with
  |none=>exact Em.vz (d9:=lpF 2) (al:=lpL) (m:=chU s st tr (nw,none,au)) 150 (by kernel_rfl) (by kernel_rfl) rfl (wZ _ _ _) rfl rfl
  |some w=>exact Em.vz (d9:=lpF 116) (al:=lpL) (m:=chU s st tr (nw,some w,au)) 150 (by kernel_rfl) (by kernel_rfl) rfl (wZ _ _ _) rfl rfl
 refine qb (DK n (cU s r) (ao s)) E ?_;obtain⟨nw,w,au⟩:=r;cases w with
 |none=>exact rC [0,1,2,3] E (by kernel_rfl) (by kernel_rfl) (by kernel_rfl) (I3 _ _ _ _) (by kernel_rfl) (by kernel_rfl) (by kernel_rfl) (by kernel_rfl) (by kernel_rfl)
 |some w=>exact rC [0,1,2,3] E (by kernel_rfl) (by kernel_rfl) (by kernel_rfl) (I3 _ _ _ _) (by kernel_rfl) (by kernel_rfl) (by kernel_rfl) (by kernel_rfl) (by kernel_rfl)
end
end
section
section
variable(n:Nat)(s:St)(st:List (Int×Int))(tr:Int)(r:Tb)
noncomputable abbrev yT(i:Nat):Bool×Nat×Nat:=(true,i,i)
noncomputable abbrev Kw(s:St)(j:Nat):List (Bool×Nat×Nat):=[(ao s j,23+4*j,151+j),(ao s j,24+4*j,129+3*j),(ao s j,25+4*j,127+3*j),(ao s j,26+4*j,128+3*j)]
noncomputable def chP:List (Bool×Nat×Nat):=[yT 0,yT 115,(r.2.1.isNone,2,116),yT 150,yT 4,yT 5,yT 6,yT 7,yT 8,yT 9,yT 10,yT 11,yT 12,yT 145,yT 146,yT 147,yT 148,yT 149,yT 126,yT 19,yT 20,yT 21,yT 22]++
 (Kw s 0++(Kw s 1++(Kw s 2++(Kw s 3++(Kw s 4++(Kw s 5++(Uv 47 65).map yT))))))
noncomputable def chA(s':St):List Bool:=SR 23 true++(SR 4 (ao s' (0:Nat))++(SR 4 (ao s' (1:Nat))++(SR 4 (ao s' (2:Nat))++(SR 4 (ao s' (3:Nat))++(SR 4 (ao s' (4:Nat))++(SR 4 (ao s' (5:Nat))++SR 65 true))))))
noncomputable abbrev P7:Nat→Nat:=bQ ((chP s r).map pick) 157
noncomputable abbrev hk(c p:Bool)(x y:O):O:=cond c ((cond p (some x) (some y)).getD .aM) .aM
noncomputable abbrev chJ(l:List Int)(j:Nat):ai:=[hk (ao (cU s r) j) (ao s j) (lv (ao s j) (ry (s.kn j))) (lv (vY (ao s) (ah (ao (cU s r))) j) (ry (m8 s.c9))),hk (ao (cU s r) j) (ao s j) (lv (ao s j) (pg (s.kn j) (ud (two s.av) (ao s) (fq r.1) l j) (25+4*j))) (lv (vY (ao s) l j) (pg (m8 s.c9) (two r.1 j) (127+3*j))),
 hk (ao (cU s r) j) (ao s j) (lv (ao s j) (gH (26+4*j))) (lv (vY (ao s) l j) (gH (128+3*j))),hk (ao (cU s r) j) (ao s j) (lv (ao s j) (.list [])) (lv (vY (ao s) l j) (.list []))]
noncomputable abbrev chK(j:Nat):ai:=[lv (ao (cU s r) j) (ry ((cU s r).kn j)),lv (ao (cU s r) j) (pg ((cU s r).kn j) (two r.1 j) (cond (ao s j) (25+4*j) (127+3*j))),lv (ao (cU s r) j) (gH (cond (ao s j) (26+4*j) (128+3*j))),lv (ao (cU s r) j) (.list [])]
theorem ad5{j:Nat}(hj:j<6):chJ s r (ah (ao (cU s r))) j=chK s r j:=by
 cases c:ao (cU s r) j with
 |false=>
  unfold chJ chK;rw[c];rfl
 |true=>
  have m:(j:Int)∈ah (ao (cU s r)):=aL.mpr ⟨⟨Tw j,TH.mpr hj⟩,c⟩;unfold chJ chK;rw[c,show(cU s r).kn j=if ao s j=true then s.kn j else m8 s.c9 from rfl];unfold ud vY;rw[aC m];cases p:ao s j with
  |true=>rw[aG ⟨m,rfl⟩];rfl
  |false=>rfl
theorem ac3:(ah (ao (cU s r))).map (fc (bQ (lpF (xW r)) 150) (ao s))=jA (ao (cU s r)) (P7 s r) 23:=
 Tg λx hx=>by have h6:=dw hx;clear hx;revert x;exact C6 (by kernel_rfl)
theorem acq:(ah (ao (cU s r))).map (fV (bQ PV 125) (ao s))=jA (ao (cU s r)) (P7 s r) 24:=
 Tg λx hx=>by have h6:=dw hx;clear hx;revert x;exact C6 (by kernel_rfl)
noncomputable abbrev chG(d3 d18:O)(J:ai):ai:=((base (P7 s r) (cU s r)).set 3 d3).set 18 d18++(J++rbs (P7 s r) (cU s r) (oZ (cU s r)))
noncomputable abbrev aib(f:Nat→ai):ai:=f 0++(f 1++(f 2++(f 3++(f 4++f 5))))
theorem abz(hm:vJ (fq r.1) (aA (cU s r).aI)=ao (cU s r)):Em (P7 s r) (mem (cU s r)) (jj s st tr r):=by
 have h:((chP s r).zip (chA (cU s r))).map (λq=>cond q.2 ((cond q.1.1 ((jj s st tr r).get q.1.2.1) ((jj s st tr r).get q.1.2.2)).getD .aM) .aM)=gY (P7 s r) (cU s r) (λj:Nat=>ao (cU s r) j) (oZ (cU s r)):=by
  refine WX (b:=chG s r (.dict .int ((ah (ao (cU s r))).map (fc (bQ (lpF (xW r)) 150) (ao s)))) (.dict .int ((ah (vJ (fq r.1) (aA (cU s r).aI))).map (fV (bQ PV 125) (ao s)))) (aib (chJ s r (ah (vJ (fq r.1) (aA (cU s r).aI)))))) ?_ ?_
  ·obtain⟨nw,w,au⟩:=r
   cases w with
   |none=>kernel_rfl
   |some w=>kernel_rfl
  ·rw[hm,ac3,acq]
   unfold aib;have e:= λj hj=>ad5 s r (j:=j) hj;rw[e 0 (by decide),e 1 (by decide),e 2 (by decide),e 3 (by decide),e 4 (by decide),e 5 (by decide)]
   kernel_rfl
 have hN:(jj s st tr r).length=157:=by kernel_rfl
 have k:=Em.afC (ms:=mem (cU s r)) h rfl (by rw[hN];exact nV I _ (cU s r) _ _) (by obtain⟨nw,w,au⟩:=r;kernel_rfl) (by rw[hN];kernel_rfl);rw[hN] at k;exact k
theorem J1(hm:vJ (fq r.1) (aA (cU s r).aI)=ao (cU s r))(o:jT (cU s r)):aq (aE (n+5) .aK [.ref 0] (jj s st tr r)) (.bool true) (jj s st tr r):=
 eB (u6 n (cU s r) o) (abz s st tr r hm)
end
end
section
noncomputable def Ss.drop:Ss→Nat→Ss
 |.zn,_=> .zn
 |.zc s ss,i=>match i with
  |0=> .zc s ss
  |i+1=>Ss.drop ss i
noncomputable def adW(C:Cl)(ss:Ss)(k:KF)(kx:KX):KF:= λf sc m=>match f with
 |.next env=>rX C ss env sc m k kx
 |.cont env=>k (.cont env) sc m
 |.ret v=>k (.ret v) sc m
theorem gT{F:Prop}{R:Sc→Prop}(hF:F)(c:jf)(e:Ak F c=R (xY c)):∃sc,R sc:=⟨_,cast e (mz c hF)⟩
noncomputable def bz(s:St):St:={s with xF:=s.xF+1}
theorem K3(p:Int→Bool):(vi (ah p)).length<ay:=jP (SM (i60 p) (by decide))
theorem ua(n:Nat)(h:n≤3):qG (.int 0) (.int (n:Int))=some (.range 0 (n:Int)):=Cy 0 n (by decide) (SG h (by decide))
noncomputable abbrev akt:Ss:=match aY .cg 7 with
 |.JX _ _ h=>h
 |_=> .zn
section
variable(n:Nat)(s:St)(y tr:Int)(ct:Nat)(r:Tb)
noncomputable abbrev jc:List (Int×Int):=(Sw ct).map (Sb y)
noncomputable abbrev sB:St:=bz s
structure Ip:Prop where
 aft:aq (aE (n+7) .b9 [.ref 1,.ref 2,.int tr,.ref 114] (cM (bz s) [bK (jc y ct)])) (.ref 117) (cM (bz s) ([bK (jc y ct)]++afL r))
 app:aq (aE (n+7) .bG [.ref 13,.ref 118] (CS (bz s) (jc y ct) tr r [])) (.ref 120) (Ci (bz s) (jc y ct) tr r (fq r.1) (aA (cU (bz s) r).aI) r.2.2)
 adp:aq (aE (n+7) .bB [.ref 9,.ref 120,.int s.c9] (Ci (bz s) (jc y ct) tr r (fq r.1) (aA (cU (bz s) r).aI) r.2.2)) .none (chT (bz s) (jc y ct) tr r)
 bks:aq (aE (n+7) .cN [.ref 0] (chU (bz s) (jc y ct) tr r)) .none (jj (bz s) (jc y ct) tr r)
 stn:aq (aE (n+7) .aK [.ref 0] (jj (bz s) (jc y ct) tr r)) (.bool true) (jj (bz s) (jc y ct) tr r)
abbrev Ef(m:ai):Prop:=aq (aE (n+8) .cg [.ref 0,.int y] (mem s)) (.bool true) m
theorem ahX(hb:decide (1∈tl s.aI)=false)(c0:bA (vi [1,1,2,0,3,1,0,2]) (y%8)=some (.int (ct:Int)))(t0:bA (vi [0,0,0,1,2,0]) (y/8%6)=some (.int tr))(hc:ct≤3)(hl:(jc y ct).length<100)(H:Ip n s y tr ct r):Ef n s y (jj (bz s) (jc y ct) tr r):=by obtain⟨h1,h2,h3,h4,h5⟩:=H;have Lo:=JW (n+6) tr (jc y ct) hl 114 118 (cM (bz s) ([bK (jc y ct)]++(afL r++[.inst .eW [(.cH,.int tr)]]))) rfl;exact gF rfl (kV 4 (aQ y 8)<|kV 0 c0<|kV 1 (bw y 8)<|kV 0 (aQ (y/8) 6)<|kV 0 t0<|kB 1 (cz hb)<|kV 3 (ua ct hc)<|kF 0 (ux (n+7) (bz s) y tr ct hc)<|kC 2 h1<|kC 3 Lo<|kC 0 h2<|kC 5 h3<|kG 2 (K3 (aA r.1))<|kG 2 (K3 (aA (cU (bz s) r).aI))<|kC 6 h4<|kC 0 h5<|kE)
theorem agU(hb:decide (1∈tl s.aI)=true)(hq:decide (0<y/48%4)=false)(c0:bA (vi [1,1,2,0,3,1,0,2]) (y%8)=some (.int (ct:Int)))(t0:bA (vi [0,0,0,1,2,0]) (y/8%6)=some (.int tr))(hc:ct≤3)(hl:(jc y ct).length<100)(H:Ip n s y tr ct r):Ef n s y (jj (bz s) (jc y ct) tr r):=by obtain⟨h1,h2,h3,h4,h5⟩:=H;have Lo:=JW (n+6) tr (jc y ct) hl 114 118 (cM (bz s) ([bK (jc y ct)]++(afL r++[.inst .eW [(.cH,.int tr)]]))) rfl;exact gF rfl (kV 4 (aQ y 8)<|kV 0 c0<|kV 1 (bw y 8)<|kV 0 (aQ (y/8) 6)<|kV 0 t0<|kB 1 (cz hb)<|kV 1 (bw y 48)<|kV 0 (aQ (y/48) 4)<|kB 0 (eZ hq)<|kV 2 (ua ct hc)<|kF 0 (ux (n+7) (bz s) y tr ct hc)<|kC 2 h1<|kC 3 Lo<|kC 0 h2<|kC 5 h3<|kG 2 (K3 (aA r.1))<|kG 2 (K3 (aA (cU (bz s) r).aI))<|kC 6 h4<|kC 0 h5<|kE)
end
end
section
section
variable(n:Nat)(s:St)(y tr:Int)(ct:Nat)(r:Tb)
theorem agp(k:Nat)(t:Int)(hb:decide (1∈tl s.aI)=true)(hq:decide (0<y/48%4)=true)(c0:bA (vi [1,1,2,0,3,1,0,2]) (y%8)=some (.int (k:Int)))(t0:bA (vi [0,0,0,1,2,0]) (y/8%6)=some (.int t))(hl:(jc y 0).length<100)(H:Ip n s y 0 0 r):Ef n s y (jj (bz s) (jc y 0) 0 r):=by obtain⟨h1,h2,h3,h4,h5⟩:=H;have Lo:=JW (n+6) 0 (jc y 0) hl 114 118 (cM (bz s) ([bK (jc y 0)]++(afL r++[.inst .eW [(.cH,.int 0)]]))) rfl;exact gF rfl (kV 4 (aQ y 8)<|kV 0 c0<|kV 1 (bw y 8)<|kV 0 (aQ (y/8) 6)<|kV 0 t0<|kB 1 (cz hb)<|kV 1 (bw y 48)<|kV 0 (aQ (y/48) 4)<|kB 0 (eZ hq)<|kF 3 (ux (n+7) (bz s) y 0 0 (by decide))<|kC 2 h1<|kC 3 Lo<|kC 0 h2<|kC 5 h3<|kG 2 (K3 (aA r.1))<|kG 2 (K3 (aA (cU (bz s) r).aI))<|kC 6 h4<|kC 0 h5<|kE)
structure RV(ex:ai):Prop where
 aft:aq (aE (n+7) .b9 [.ref 1,.ref 2,.int tr,.ref 114] (cM (bz s) [bK (jc y ct)])) (.ref 115) (cM (bz s) [bK (jc y ct),.list []])
 app:aE (n+7) .bG [.ref 13,.ref 116] (CO (bz s) (jc y ct) tr []) (λ_ _=>False) λm'=>m'=CO (bz s) (jc y ct) tr ex
 stn:aq (aE (n+7) .aK [.ref 0] (CO (bz s) (jc y ct) tr ex)) (.bool true) (CO (bz s) (jc y ct) tr ex)
theorem Gx(ex:ai)(h:aq (aE (n+7) .aK [.ref 0] (CO (bz s) (jc y ct) tr ex)) (.bool true) (CO (bz s) (jc y ct) tr ex)):∃sc,rX (qn (n+7)) akt [.ref 0,.int y,.int ct,.int tr,.ref 114,.af,.af,.ref 115,.af] sc (CO (bz s) (jc y ct) tr ex) (adW (qn (n+7)) (Ss.drop (prog .cg).body 8) (FA .keep (mem s) λv _ m'=>v=.bool true∧m'=CO (bz s) (jc y ct) tr ex) fy) λ_=>False:=
 gT (⟨rfl,rfl⟩:V.bool true=.bool true∧CO (bz s) (jc y ct) tr ex=CO (bz s) (jc y ct) tr ex) (kC 2 h<|kE) (by kernel_rfl)
theorem agi(ex:ai)(hb:decide (1∈tl s.aI)=false)(c0:bA (vi [1,1,2,0,3,1,0,2]) (y%8)=some (.int (ct:Int)))(t0:bA (vi [0,0,0,1,2,0]) (y/8%6)=some (.int tr))(hc:ct≤3)(hl:(jc y ct).length<100)(H:RV n s y tr ct ex):Ef n s y (CO (bz s) (jc y ct) tr ex):=by obtain⟨h1,h2,h3⟩:=H;have Lo:=JW (n+6) tr (jc y ct) hl 114 116 (cM (bz s) [bK (jc y ct),.list [],.inst .eW [(.cH,.int tr)]]) rfl;have hn:=Gx n s y tr ct ex h3;exact gD rfl (kV 4 (aQ y 8)<|kV 0 c0<|kV 1 (bw y 8)<|kV 0 (aQ (y/8) 6)<|kV 0 t0<|kB 1 (cz hb)<|kV 3 (ua ct hc)<|kF 0 (ux (n+7) (bz s) y tr ct hc)<|kC 2 h1<|kC 3 Lo<|kX 0 h2<|kE) hn
theorem ahW(ex:ai)(hb:decide (1∈tl s.aI)=true)(hq:decide (0<y/48%4)=false)(c0:bA (vi [1,1,2,0,3,1,0,2]) (y%8)=some (.int (ct:Int)))(t0:bA (vi [0,0,0,1,2,0]) (y/8%6)=some (.int tr))(hc:ct≤3)(hl:(jc y ct).length<100)(H:RV n s y tr ct ex):Ef n s y (CO (bz s) (jc y ct) tr ex):=by obtain⟨h1,h2,h3⟩:=H;have Lo:=JW (n+6) tr (jc y ct) hl 114 116 (cM (bz s) [bK (jc y ct),.list [],.inst .eW [(.cH,.int tr)]]) rfl;have hn:=Gx n s y tr ct ex h3;exact gD rfl (kV 4 (aQ y 8)<|kV 0 c0<|kV 1 (bw y 8)<|kV 0 (aQ (y/8) 6)<|kV 0 t0<|kB 1 (cz hb)<|kV 1 (bw y 48)<|kV 0 (aQ (y/48) 4)<|kB 0 (eZ hq)<|kV 2 (ua ct hc)<|kF 0 (ux (n+7) (bz s) y tr ct hc)<|kC 2 h1<|kC 3 Lo<|kX 0 h2<|kE) hn
theorem ain(ex:ai)(k:Nat)(t:Int)(hb:decide (1∈tl s.aI)=true)(hq:decide (0<y/48%4)=true)(c0:bA (vi [1,1,2,0,3,1,0,2]) (y%8)=some (.int (k:Int)))(t0:bA (vi [0,0,0,1,2,0]) (y/8%6)=some (.int t))(hl:(jc y 0).length<100)(H:RV n s y 0 0 ex):Ef n s y (CO (bz s) (jc y 0) 0 ex):=by obtain⟨h1,h2,h3⟩:=H;have Lo:=JW (n+6) 0 (jc y 0) hl 114 116 (cM (bz s) [bK (jc y 0),.list [],.inst .eW [(.cH,.int 0)]]) rfl;have hn:=Gx n s y 0 0 ex h3;exact gD rfl (kV 4 (aQ y 8)<|kV 0 c0<|kV 1 (bw y 8)<|kV 0 (aQ (y/8) 6)<|kV 0 t0<|kB 1 (cz hb)<|kV 1 (bw y 48)<|kV 0 (aQ (y/48) 4)<|kB 0 (eZ hq)<|kF 3 (ux (n+7) (bz s) y 0 0 (by decide))<|kC 2 h1<|kC 3 Lo<|kX 0 h2<|kE) hn
end
end
section
theorem kZ{t:Int→Int}:1∈tl t↔ah (aA t)≠[]:=by
 constructor
 ·intro h e
  obtain⟨j,hj,q⟩:=SW.mp h;have:j∈ah (aA t):=aL.mpr ⟨mS.mp hj,aC q⟩;rw[e] at this;exact nomatch this
 ·intro h
  obtain⟨j,l,e⟩:=List.exists_cons_of_ne_nil h;have hj:j∈ah (aA t):=e▸SI;exact SW.mpr ⟨j,dw hj,of_decide_eq_true (aL.mp hj).2⟩
structure o4(av aI:Int→Int)(gV:Bool):Prop where
 PW:∀j,0≤av j∧av j<4
 agL:∀j,aI j=0∨aI j=1
 dom:∀j,av j≠0→1≤j∧j<6
 acR:∀j,aI j≠0→1≤j∧j<6
 bu:∀j,av j=3→aI j=1
 two:∀j,av j=2→aI j≠1
 ah6:1∉tl aI→gV=false
 v1:1∈tl av
section
variable{av aI new:Int→Int}{gV:Bool}(T:o4 av aI gV)
include T
theorem o4.ajy(h:1∉tl aI)(j:Int):aI j=0:=(T.agL j).resolve_right λq=>h (SW.mpr ⟨j,mS.mpr (by have:=T.acR j (by rw[q];decide);exact⟨TX (by decide) this.1,this.2⟩),q⟩)
theorem o4.mb:vJ (fq av) (aA aI)= λx=>decide (0<av x)||decide (aI x=1):=funext λx=>by
 show((decide (av x=1)||decide (aI x=1))||decide (av x=2))=(decide (0<av x)||decide (aI x=1));have h:=T.PW x;by_cases w:aI x=1
 ·rw[aC w,UR,UR];rfl
 ·have h3:av x≠3:= λe=>w (T.bu x e)
  rw[aH w,Vj,Vj,←Bool.decide_or];exact decide_eq_decide.mpr ⟨λq=>by omega,λq=>by omega⟩
theorem o4.ck:MH (fq av) (aA aI) gV:=by
 have d:∀{t:Int→Int} {c y:Int},y∈ah (λx=>decide (t x=c))→t y=c:= λh=>of_decide_eq_true (aL.mp h).2;refine⟨?_,λh=> ?_,λy h=> ?_,λy h=> ?_,λh=>T.ah6 λq=>kZ.mp q h⟩
 ·rw[S4,S4]
  exact Sz (W7 (W7 (cQ _) (cQ _)) (cQ _)) (by decide)
 ·rcases TQ.mp h with h|h
  ·rcases TQ.mp h with h|h
   ·exact absurd (T.dom 0 (by rw[d (t:=av) h];decide)).1 (by decide)
   ·exact absurd (T.acR 0 (by rw[d (t:=aI) h];decide)).1 (by decide)
  ·exact absurd (T.dom 0 (by rw[d (t:=av) h];decide)).1 (by decide)
 ·have h3:=d (t:=av) h
  exact⟨aL.mpr ⟨(aL.mp h).1,aC (T.bu y h3)⟩,λq=>absurd (h3.symm.trans (d (t:=av) q)) (by decide),λq=>absurd (h3.symm.trans (d (t:=av) q)) (by decide)⟩
 ·have h2:=d (t:=av) h
  exact⟨λq=>absurd (h2.symm.trans (d (t:=av) q)) (by decide),λq=>T.two y h2 (d (t:=aI) q)⟩
end
theorem Px(c:Int)(t:Int→Int)(y v:Int):(λx=>decide (jS t y v x=c))=if v=c then wm (λx=>decide (t x=c)) y else iy (λx=>decide (t x=c)) y:=by
 by_cases h:v=c
 ·rw[aG h]
  funext x
  unfold jS wm;by_cases e:x=y
  ·rw[aG e,aC h,show(x==y)=true from beq_iff_eq.mpr e,UR]
  ·rw[aJ e,show(x==y)=false from beq_eq_false_iff_ne.mpr e,Vj]
 ·rw[aJ h]
  funext x
  unfold jS iy;by_cases e:x=y
  ·rw[aG e,aH h,aC e,Yg,V9]
  ·rw[aJ e,aH e,Xi,V1]
theorem abf(p:Int→Bool)(y:Int):wm (iy p y) y=wm p y:=funext λx=>by
 unfold wm iy;by_cases e:x=y
 ·rw[show(x==y)=true from beq_iff_eq.mpr e,UR,UR]
 ·rw[aH e,Xi,V1]
theorem wQ(t:Int→Int)(y v:Int):fq (jS t y v)=(if v=1 then wm (aA t) y else iy (aA t) y,if v=2 then wm (two t) y else iy (two t) y,if v=3 then wm (bu t) y else iy (bu t) y):=by have h1:=Px 1 t y v;have h2:=Px 2 t y v;have h3:=Px 3 t y v;show((λx=>decide (jS t y v x=1)),(λx=>decide (jS t y v x=2)),λx=>decide (jS t y v x=3))=_;rw[h1,h2,h3];rfl
theorem OV(t:Int→Int)(y:Int):jS t y (t y)=t:=funext λx=>by
 unfold jS;by_cases e:x=y
 ·rw[aG e,e]
 ·rw[aJ e]
structure lI(av:Int→Int)(jg:Bool)(new:Int→Int):Prop where
 PW:∀j,0≤new j∧new j<4
 dom:∀j,new j≠0→1≤j∧j<6
 bu:∀j,new j=3→jg=true∧av j=1
 two:∀j,new j=2→jg=true→av j≠1
section
variable{av new:Int→Int}{jg:Bool}(S:lI av jg new)
include S
theorem lI.set{y v:Int}(hy:1≤y∧y<6)(hv:0≤v∧v<4)(h3:v=3→jg=true∧av y=1)(h2:v=2→jg=true→av y≠1):lI av jg (jS new y v):=by
 have c:∀j,(j=y∧jS new y v j=v)∨jS new y v j=new j:= λj=>by
  unfold jS;by_cases e:j=y
  ·exact .inl ⟨e,aG e⟩
  ·exact .inr (aJ e)
 refine⟨λj=> ?_,λj h=> ?_,λj h=> ?_,λj h=> ?_⟩
 ·rcases c j with⟨_,q⟩|q<;>rw[q]
  ·exact hv
  ·exact S.PW j
 ·rcases c j with⟨e,q⟩|q
  ·rw[e];exact hy
  ·exact S.dom j (q▸h)
 ·rcases c j with⟨e,q⟩|q
  ·rw[e];exact h3 (q.symm.trans h)
  ·exact S.bu j (q.symm.trans h)
 ·rcases c j with⟨e,q⟩|q
  ·rw[e];exact h2 (q.symm.trans h)
  ·exact S.two j (q.symm.trans h)
theorem lI.step{o:Int→Bool}(ho:∀y,o y=(jg&&decide (av y=1))){p:Int×Int}(hp:(0≤p.1∧p.1<4)∧0≤p.2∧p.2<6):lI av jg (Co av jg new p)∧zL o (fq new) p=fq (Co av jg new p):=by
 obtain⟨k,y⟩:=p;unfold Co zL;dsimp only at hp⊢;by_cases h:y=0
 ·rw[aG h,aG h];exact⟨S,rfl⟩
 have hy:1≤y∧y<6:=⟨by have:=hp.2.1;omega,hp.2.2⟩;rw[aJ h,aJ h];by_cases h0:k=0
 ·rw[aG h0,aG h0,wQ]
  exact⟨S.set hy (by decide) (λe=>absurd e (by decide)) λe=>absurd e (by decide),rfl⟩
 rw[aJ h0,aJ h0];by_cases h1:k=1
 ·subst h1
  rw[aG rfl,aJ (show¬(1:Int)=3 by decide),aG rfl,wQ];exact⟨S.set hy (by decide) (λe=>absurd e (by decide)) λe=>absurd e (by decide),rfl⟩
 rw[aJ h1,aJ h1];by_cases h3:k=3
 ·rw[aG h3,aG h3]
  have hb:(if jg=true then(if av y=1 then jS new y 3 else jS new y 2) else jS new y 2)=if(jg&&decide (av y=1))=true then jS new y 3 else jS new y 2:=by
   cases jg with
   |false=>rfl
   |true=>
    rw[aG rfl,aqm];by_cases e:av y=1
    ·rw[aG e,aG (aC e)]
    ·rw[aJ e,aJ λz=>e (of_decide_eq_true z)]
  show lI av jg (if jg=true then _ else _)∧(if decide (new y=2)=true then fq new else if o y=true then _ else _)=fq (if jg=true then _ else _);rw[hb,ho];cases c:jg&&decide (av y=1) with
  |true=>
   obtain⟨c1,c2⟩:=Sn.mp c;have c2:=of_decide_eq_true c2;rw[aG rfl,aG rfl,aJ λz=>S.two y (of_decide_eq_true z) c1 c2,wQ];exact⟨S.set hy (by decide) (λ_=>⟨c1,c2⟩) λe=>absurd e (by decide),by show(iy (aA new) y,iy (L.two new) y,wm (iy (L.bu new) y) y)=_;rw[abf];rfl⟩
  |false=>
   rw[aJ Tc,aJ Tc];refine⟨S.set hy (by decide) (λe=>absurd e (by decide)) λ_ b e=> ?_,?_⟩
   ·rw[b,aC e] at c;exact gg c.symm
   ·by_cases e:new y=2
    ·rw[aG (aC e),←e,OV]
    ·rw[aJ λz=>e (of_decide_eq_true z),wQ]
     show(iy (aA new) y,wm (iy (L.two new) y) y,iy (L.bu new) y)=_;rw[abf];rfl
 ·rw[aJ h3,aJ h3];exact⟨S,rfl⟩
end
theorem lI.nj{av:Int→Int}{jg:Bool}{o:Int→Bool}(ho:∀y,o y=(jg&&decide (av y=1)))(l:List (Int×Int)):∀new,lI av jg new→l8 l→lI av jg (l.foldl (Co av jg) new)∧dO o (fq new) l=fq (l.foldl (Co av jg) new):=by
 induction l with
 |nil=>exactλnew S _=>⟨S,rfl⟩
 |cons p l ih=>
  intro new S hs;obtain⟨h1,h2⟩:=S.step ho (hs p SI);obtain⟨h3,h4⟩:=ih _ h1 λq hq=>hs q (S0 _ hq);exact⟨h3,by show l.foldl (zL o) (zL o (fq new) p)=_;rw[h2];exact h4⟩
end
section
section
variable{av aI:Int→Int}{gV:Bool}(T:o4 av aI gV)
theorem acW:fq (CN av)=(aA av,orP (two av) (bu av),λ_=>false):=by
 have c:∀x,(av x=3∧CN av x=2)∨(av x≠3∧CN av x=av x):= λx=>by
  unfold CN;by_cases e:av x=3
  ·exact .inl ⟨e,aG e⟩
  ·exact .inr ⟨e,aJ e⟩
 have h1:aA (CN av)=aA av:=funext λx=>by
  unfold aA;rcases c x with⟨e,q⟩|⟨_,q⟩<;>rw[q]
  rw[e];rfl
 have h2:two (CN av)=orP (two av) (bu av):=funext λx=>by
  unfold orP two bu;rcases c x with⟨e,q⟩|⟨e,q⟩<;>rw[q]
  ·rw[e];rfl
  ·rw[aH e,Vj]
 have h3:bu (CN av)= λ_=>false:=funext λx=>by
  unfold bu;rcases c x with⟨e,q⟩|⟨e,q⟩<;>rw[q]
  ·rfl
  ·exact aH e
 unfold fq;rw[h1,h2,h3]
theorem N4:aA (MQ av)=aA av:=funext λx=>by
 unfold aA MQ;by_cases e:av x=1
 ·rw[aG e,e]
 ·rw[aJ e,aH e];rfl
include T
theorem o4.PJ:o4 (CN av) (λ_=>0) false:=by
 have c:∀x,(av x=3∧CN av x=2)∨(av x≠3∧CN av x=av x):= λx=>by
  unfold CN;by_cases e:av x=3
  ·exact .inl ⟨e,aG e⟩
  ·exact .inr ⟨e,aJ e⟩
 refine⟨λj=> ?_,λj=> .inl rfl,λj h=> ?_,λj h=>absurd rfl h,λj h=> ?_,λj h=>(by decide),λ_=>rfl,?_⟩
 ·rcases c j with⟨_,q⟩|⟨_,q⟩<;>rw[q]
  ·decide
  ·exact T.PW j
 ·refine T.dom j λe=>h ?_
  rcases c j with⟨e',q⟩|⟨_,q⟩
  ·rw[e] at e';exact absurd e' (by decide)
  ·exact q.trans e
 ·rcases c j with⟨_,q⟩|⟨e,q⟩
  ·rw[q] at h;exact absurd h (by decide)
  ·exact absurd (q.symm.trans h) e
 ·obtain⟨j,hj,e⟩:=SW.mp T.v1
  refine SW.mpr ⟨j,hj,?_⟩;rcases c j with⟨e',q⟩|⟨_,q⟩
  ·rw[e] at e';exact absurd e' (by decide)
  ·exact q.trans e
theorem o4.apply{st:List (Int×Int)}{tr:Int}(hs:l8 st)(ht:0≤tr):MD st tr gV (fq av) (aA aI)=(CW av aI st tr).map (λr=>(fq r.1,aA (r.2.1.getD aI),r.2.2))∧∀r,CW av aI st tr=some r→o4 r.1 (r.2.1.getD aI) r.2.2:=by
 unfold MD CW;have hw:ah (aA aI)=[]↔1∉tl aI:=⟨λh m=>kZ.mp m h,λh=>Yh λe=>h (kZ.mpr e)⟩;have hv:∀t:Int→Int,ah (fq t).1=[]↔1∉tl t:= λt=>⟨λh m=>kZ.mp m h,λh=>Yh λe=>h (kZ.mpr e)⟩;by_cases c1:tr=0∧st=[]
 ·rw[aG c1,aG c1]
  by_cases hj:1∈tl aI
  ·rw[aJ λz=>hw.mp z hj,aG hj]
   refine⟨bk some ?_,λr e=> ?_⟩
   ·show _=(fq (CN av),_,_)
    rw[acW];rfl
   ·cases e;exact T.PJ
  ·rw[aG (hw.mpr hj),aJ hj];exact⟨rfl,λr e=>nomatch e⟩
 rw[aJ c1,aJ c1];by_cases hj:1∈tl aI
 ·rw[aG hj,aG λz=>hw.mp z hj];exact⟨rfl,λr e=>nomatch e⟩
 rw[aJ hj,aJ λz=>z (hw.mpr hj)];have w0:=T.ajy hj;have n3:∀j,av j≠3:= λj h=>by have:=T.bu j h;rw[w0 j] at this;exact absurd this (by decide)
 by_cases c2:tr=0∧st.length=1
 ·rw[aG c2,aG c2]
  obtain⟨S,e⟩:=lI.nj (av:=av) (jg:=false) (o:=aA aI) (λy=>by unfold aA;rw[w0 y];rfl) st av ⟨T.PW,T.dom,λj h=>absurd h (n3 j),λ_ _ h=>nomatch h⟩ hs
  rw[e];show(if ah (fq (iR av false st)).1=[] then none else some (fq (iR av false st),aA aI,gV))=_∧_;by_cases h1:1∈tl (iR av false st)
  ·rw[aG h1,aJ λz=>(hv _).mp z h1,T.ah6 hj]
   refine⟨rfl,λr e=> ?_⟩;cases e;exact⟨S.PW,T.agL,S.dom,T.acR,λj h=>absurd (S.bu j h).1 (by decide),λj _=>by show aI j≠1;rw[w0 j];decide,λ_=>rfl,h1⟩
  ·rw[aJ h1,aG ((hv _).mpr h1)];exact⟨rfl,λr e=>nomatch e⟩
 ·rw[aJ c2,aJ c2]
  obtain⟨S,e⟩:=lI.nj (av:=av) (jg:=true) (o:=aA av) (λy=>(aqm _).symm) st av ⟨T.PW,T.dom,λj h=>absurd h (n3 j),λj h _=>by rw[h];decide⟩ hs;show(if ah (dO (aA av) (fq av) st).1=[] then none else some (dO (aA av) (fq av) st,aA av,!decide (tr=2)))=_∧_;rw[e];show(if ah (fq (iR av true st)).1=[] then none else some (fq (iR av true st),aA av,!decide (tr=2)))=_∧_;by_cases h1:1∈tl (iR av true st)
  ·rw[aG h1,aJ λz=>(hv _).mp z h1]
   refine⟨bk some ?_,λr e=> ?_⟩
   ·show _=(fq (iR av true st),aA (MQ av),_)
    rw[N4]
   ·cases e
    have c:∀j,(av j=1∧MQ av j=1)∨(av j≠1∧MQ av j=0):= λj=>by
     unfold MQ;by_cases e:av j=1
     ·exact .inl ⟨e,aG e⟩
     ·exact .inr ⟨e,aJ e⟩
    refine⟨S.PW,λj=>(c j).symm.imp (·.2) (·.2),S.dom,λj h=> ?_,λj h=> ?_,λj h q=> ?_,λh=> ?_,h1⟩
    ·rcases c j with⟨e,_⟩|⟨_,q⟩
     ·exact T.dom j (by rw[e];decide)
     ·exact absurd q h
    ·exact(c j).elim (·.2) λq=>absurd (S.bu j h).2 q.1
    ·rcases c j with⟨e,_⟩|⟨_,q'⟩
     ·exact S.two j h rfl e
     ·exact absurd (q'.symm.trans q) (by decide)
    ·refine absurd (kZ.mpr ?_) h
     show ah (aA (MQ av))≠[];rw[N4];exact kZ.mp T.v1
  ·rw[aJ h1,aG ((hv _).mpr h1)];exact⟨rfl,λr e=>nomatch e⟩
end
theorem K6{l:List Int}{y:Int}(nd:l.Nodup)(h:∀x∈l,x=y):l.length≤1:=match l,nd,h with
 |[],_,_=>Um _
 |[_],_,_=>SQ _
 |a::b::l,nd,h=>absurd ((h a SI).trans (h b (S0 _ SI)).symm) λe=>(Ui.mp nd).1 (e▸SI)
theorem C1{p q:Int→Bool}{y:Int}(h:∀z,z≠y→p z=q z):zW (ah p) (ah q)≤1∧((p y=true→q y=true)→zW (ah p) (ah q)=0):=by
 have key:∀x,x∈(ah p).filter (λx=> !decide (x∈ah q))→p x=true∧q x≠true:= λx hx=>by obtain⟨h1,h2⟩:=Ux.mp hx;obtain⟨h3,h4⟩:=aL.mp h1;exact⟨h4,λe=>by rw[aC (aL.mpr ⟨h3,e⟩)] at h2;exact gg h2⟩
 have at_:∀x,x∈(ah p).filter (λx=> !decide (x∈ah q))→x=y:= λx hx=>Yh λe=>(key x hx).2 ((h x e).symm.trans (key x hx).1);refine⟨K6 ((FU p).filter _) at_,λk=> ?_⟩;unfold zW;rw[Zz.mpr λx hx=>(key x hx).2 (by rw[at_ x hx];exact k (by rw[←at_ x hx];exact(key x hx).1))];rfl
theorem acA{p q:Int→Bool}{y:Int}(h:∀z,z≠y→p z=q z):apart (ah p) (ah q)≤1:=by
 have h1:=C1 h;have h2:=C1 λz hz=>(h z hz).symm;unfold apart;by_cases c:p y=true→q y=true
 ·rw[h1.2 c,Uq];exact h2.1
 ·rw[h2.2 λe=>absurd (λ_=>e) c,Nat.add_zero];exact h1.1
theorem Nm{o:Int→Bool}{t:lY}{p:Int×Int}{z:Int}(h:z≠p.2):t.1 z=(zL o t p).1 z:=by
 have h1:wm t.1 p.2 z=t.1 z:=by unfold wm;rw[beq_eq_false_iff_ne.mpr h,Vj]
 have h2:iy t.1 p.2 z=t.1 z:=by unfold iy;rw[aH h,Xi,V1]
 unfold zL
 split
 ·rfl
 split
 ·exact h1.symm
 split
 ·split
  ·rfl
  split<;>exact h2.symm
 split
 ·exact h2.symm
 ·rfl
theorem MC{o:Int→Bool}{t:lY}{st:List (Int×Int)}(h:st.length=1):apart (ah t.1) (ah (dO o t st).1)≤1:=match st,h with
 |[p],_=>acA (y:=p.2) λz hz=>Nm hz
end
section
theorem qz(l:List Int)(i:Int)(h:0≤i)(h':i<l.length)(OF:l.length<ay):bA (vi l) i=some (.int (l.getD i.toNat 0)):=by have e:(i.toNat:Int)=i:=Wm h;have lt:i.toNat<l.length:=TH.mp (e.symm▸h');unfold bA;rw[aJ (Wg.mpr (Sz (Te (Ye ((Int.natAbs_of_nonneg h).trans e.symm))) (SM lt OF))),aG h,Tz,U7,S6 lt];rfl
abbrev noC(s:St)(y:Int):Prop:=1∈tl s.aI∧0<y/48%4
noncomputable def Ma:List Int:=[1,1,2,0,3,1,0,2]
noncomputable def Ra(y:Int):Nat:=(Ma.getD (y%8).toNat 0).toNat
noncomputable def trY(y:Int):Int:=([0,0,0,1,2,0]:List Int).getD (y/8%6).toNat 0
theorem Io:∀k,k<8→((Ma.getD k 0).toNat:Int)=Ma.getD k 0∧(Ma.getD k 0).toNat≤3:=by decide
theorem adf:∀k,k<6→([0,0,0,1,2,0]:List Int).getD k 0=0∨([0,0,0,1,2,0]:List Int).getD k 0=1∨([0,0,0,1,2,0]:List Int).getD k 0=2:=by decide
noncomputable def qM(s:St)(y:Int):Nat:=if noC s y then 0 else Ra y
noncomputable def nU(s:St)(y:Int):Int:=if noC s y then 0 else trY y
theorem mY(a b:Int)(k:Nat)(e:b=(k:Int))(h:0<b):0≤a%b∧a%b<b∧(a%b).toNat<k:=
 have h0:=Yc a (Wq h);have h1:=Yd a h
 ⟨h0,h1,TH.mp ((Wm h0).symm▸e▸h1)⟩
section
variable(n:Nat)(s:St)(y:Int)
theorem PC(ct:Nat):l8 (jc y ct):= λp hp=>by obtain⟨k,_,rfl⟩:=SW.mp hp;have a:=mY (cOf y k) 4 4 rfl (by decide);have b:=mY (cOf y k/4) 6 6 rfl (by decide);exact⟨⟨a.1,a.2.1⟩,b.1,b.2.1⟩
theorem JE:bA (vi [1,1,2,0,3,1,0,2]) (y%8)=some (.int (Ra y:Int)):=by have h:=mY y 8 8 rfl (by decide);unfold Ra;rw[(Io _ h.2.2).1];exact qz Ma (y%8) h.1 h.2.1 (by decide)
theorem JS:bA (vi [0,0,0,1,2,0]) (y/8%6)=some (.int (trY y)):=
 have h:=mY (y/8) 6 6 rfl (by decide)
 qz [0,0,0,1,2,0] (y/8%6) h.1 h.2.1 (by decide)
theorem pP:Ra y≤3:=(Io _ (mY y 8 8 rfl (by decide)).2.2).2
theorem Nk:nU s y=0∨nU s y=1∨nU s y=2:=by
 unfold nU;by_cases c:noC s y
 ·rw[aG c];exact .inl rfl
 ·rw[aJ c];exact adf _ (mY (y/8) 6 6 rfl (by decide)).2.2
theorem qD{ct:Nat}(h:ct≤3):(jc y ct).length<100:=by rw[Sy,Uz];exact Sz h (by decide)
noncomputable abbrev aeg:Option Tb:=CW s.av s.aI (jc y (qM s y)) (nU s y)
noncomputable def sJ:St:=match aeg s y with
 |none=>bz s
 |some r=>cU (bz s) r
theorem Ay(T:o4 s.av s.aI s.gV)(o:jT (sJ s y)):dM (n+8) .cg [.int y] s λs'=>s'=sJ s y:=by
 have hs:=PC y (qM s y);have ht:=Nk s y;have ht0:0≤nU s y:=by rcases ht with h|h|h<;>rw[h]<;>decide
 have A:=ac0 (n+6) s.av s.aI (jc y (qM s y)) (nU s y) hs ht0;obtain⟨e,T'⟩:=T.apply hs ht0;have B:=aeX n (jc y (qM s y)) (nU s y) s.gV (fq s.av) (aA s.aI) hs ht T.ck (kZ.mp T.v1) MC λq hq=>by rw[e] at hq;obtain⟨r,h1,rfl⟩:=X4.mp hq;exact(T' r h1).ck
 rw[e] at B;unfold sJ at o⊢;cases hr:aeg s y with
 |none=>
  rw[show CW s.av s.aI (jc y (qM s y)) (nU s y)=none from hr] at A B;rw[hr] at o;obtain⟨ex,h2⟩:=LL (n+7) (bz s) (jc y (qM s y)) (nU s y) B;have H:RV n s y (nU s y) (qM s y) ex:=⟨Oa (n+7) (bz s) _ _ A,h2,cJ _ (u6 (n+2) (bz s) o) rfl λ_=>rfl⟩;have D:Ef n s y (CO (bz s) (jc y (qM s y)) (nU s y) ex):=by
   unfold qM nU at H⊢;by_cases c:noC s y
   ·rw[aG c,aG c] at H⊢
    exact ain n s y ex _ _ (aC c.1) (aC c.2) (JE y) (JS y) (qD y (by decide)) H
   ·rw[aJ c,aJ c] at H⊢
    by_cases hb:1∈tl s.aI
    ·exact ahW n s y _ _ ex (aC hb) (aH λq=>c ⟨hb,q⟩) (JE y) (JS y) (pP y) (qD y (pP y)) H
    ·exact agi n s y _ _ ex (aH hb) (JE y) (JS y) (pP y) (qD y (pP y)) H
  exact .fin D rfl (.CZ _ _)
 |some r=>
  rw[show CW s.av s.aI (jc y (qM s y)) (nU s y)=some r from hr] at A B;rw[hr] at o;have T':=T' r hr;have hm:vJ (fq r.1) (aA (cU (bz s) r).aI)=ao (cU (bz s) r):=T'.mb;have h2:=NH (n+7) (bz s) (jc y (qM s y)) (nU s y) r (fq r.1,aA (cU (bz s) r).aI,r.2.2) B;have h3:=OI (n+3) (bz s) (jc y (qM s y)) (nU s y) r (fq r.1) (aA (cU (bz s) r).aI) r.2.2 T'.ck;have H:Ip n s y (nU s y) (qM s y) r:=⟨PS (n+7) (bz s) _ _ r A,h2,h3,GP (n+6) (bz s) _ _ r,J1 (n+2) (bz s) _ _ r hm o⟩;have D:Ef n s y (jj (bz s) (jc y (qM s y)) (nU s y) r):=by
   unfold qM nU at H⊢;by_cases c:noC s y
   ·rw[aG c,aG c] at H⊢
    exact agp n s y r _ _ (aC c.1) (aC c.2) (JE y) (JS y) (qD y (by decide)) H
   ·rw[aJ c,aJ c] at H⊢
    by_cases hb:1∈tl s.aI
    ·exact agU n s y _ _ r (aC hb) (aH λq=>c ⟨hb,q⟩) (JE y) (JS y) (pP y) (qD y (pP y)) H
    ·exact ahX n s y _ _ r (aH hb) (JE y) (JS y) (pP y) (qD y (pP y)) H
  exact .fin D rfl ⟨_,abz (bz s) _ _ r hm,rfl⟩
end
end
section
theorem jO{x j:Int}(h:x%12=j):(Op.nC .qA x 12).map V.int=some (.int j):=h▸aQ x 12
theorem akJ{x j:Int}(h:x%3=j):(Op.nC .qA x 3).map V.int=some (.int j):=h▸aQ x 3
section
variable(n:Nat)(s:St)(x:Int)(Q:V→ai→Prop)
theorem agG(hk:x%12=0)(hc:s.xF<6)(h:aE n .cg [.ref 0,.int (x/12)] (mem s) Q fy):aE (n+1) .dh [.ref 0,.int x] (mem s) Q fy:=gQ rfl (kV 0 (jO hk)<|kV 0 (bw x 12)<|kB 3 (eZ (aC hc))<|kQ 1 h (λv' m' hQ=>(hQ)))
theorem afH(hk:x%12=3)(hc:s.xF<6)(h:aE n .cg [.ref 0,.int (x/12)] (mem s) Q fy):aE (n+1) .dh [.ref 0,.int x] (mem s) Q fy:=gQ rfl (kV 0 (jO hk)<|kV 0 (bw x 12)<|kB 3 (eZ (aC hc))<|kQ 1 h (λv' m' hQ=>(hQ)))
theorem ahx(hk:x%12=6)(hc:s.xF<6)(h:aE n .cg [.ref 0,.int (x/12)] (mem s) Q fy):aE (n+1) .dh [.ref 0,.int x] (mem s) Q fy:=gQ rfl (kV 0 (jO hk)<|kV 0 (bw x 12)<|kB 3 (eZ (aC hc))<|kQ 1 h (λv' m' hQ=>(hQ)))
theorem ahB(hk:x%12=9)(hc:s.xF<6)(h:aE n .cg [.ref 0,.int (x/12)] (mem s) Q fy):aE (n+1) .dh [.ref 0,.int x] (mem s) Q fy:=gQ rfl (kV 0 (jO hk)<|kV 0 (bw x 12)<|kB 3 (eZ (aC hc))<|kQ 1 h (λv' m' hQ=>(hQ)))
theorem agQ(hk:x%12=0)(hc:¬s.xF<6)(h:aE n .gk [.ref 0,.int (x/12)] (mem s) Q fy):aE (n+1) .dh [.ref 0,.int x] (mem s) Q fy:=gQ rfl (kV 0 (jO hk)<|kV 0 (bw x 12)<|kB 3 (eZ (aH hc))<|kQ 5 h (λv' m' hQ=>(hQ)))
theorem ahj(hk:x%12=3)(hc:¬s.xF<6)(h:aE n .dG [.ref 0,.int (x/12)] (mem s) Q fy):aE (n+1) .dh [.ref 0,.int x] (mem s) Q fy:=gQ rfl (kV 0 (jO hk)<|kV 0 (bw x 12)<|kB 3 (eZ (aH hc))<|kQ 18 h (λv' m' hQ=>(hQ)))
theorem agm(hk:x%12=6)(hc:¬s.xF<6)(h:aE n .dG [.ref 0,.int (x/12)] (mem s) Q fy):aE (n+1) .dh [.ref 0,.int x] (mem s) Q fy:=gQ rfl (kV 0 (jO hk)<|kV 0 (bw x 12)<|kB 3 (eZ (aH hc))<|kQ 18 h (λv' m' hQ=>(hQ)))
theorem agO(hk:x%12=9)(hc:¬s.xF<6)(h:aE n .dG [.ref 0,.int (x/12)] (mem s) Q fy):aE (n+1) .dh [.ref 0,.int x] (mem s) Q fy:=gQ rfl (kV 0 (jO hk)<|kV 0 (bw x 12)<|kB 3 (eZ (aH hc))<|kQ 18 h (λv' m' hQ=>(hQ)))
theorem akE(hk:x%12=1)(h:aE n .gk [.ref 0,.int (x/12)] (mem s) Q fy):aE (n+1) .dh [.ref 0,.int x] (mem s) Q fy:=gQ rfl (kV 0 (jO hk)<|kV 0 (bw x 12)<|kQ 6 h (λv' m' hQ=>(hQ)))
theorem akA(hk:x%12=4)(h:aE n .nG [.ref 0,.int (x/12)] (mem s) Q fy):aE (n+1) .dh [.ref 0,.int x] (mem s) Q fy:=gQ rfl (kV 0 (jO hk)<|kV 0 (bw x 12)<|kQ 9 h (λv' m' hQ=>(hQ)))
theorem akS(hk:x%12=2)(h:aE n .jU [.ref 0,.int (x/12)] (mem s) Q fy):aE (n+1) .dh [.ref 0,.int x] (mem s) Q fy:=gQ rfl (kV 0 (jO hk)<|kV 0 (bw x 12)<|kQ 12 h (λv' m' hQ=>(hQ)))
theorem aj8(hk:x%12=8)(h:aE n .jU [.ref 0,.int (x/12)] (mem s) Q fy):aE (n+1) .dh [.ref 0,.int x] (mem s) Q fy:=gQ rfl (kV 0 (jO hk)<|kV 0 (bw x 12)<|kQ 13 h (λv' m' hQ=>(hQ)))
theorem aie(hk:x%12=10)(h:aE n .fP [.ref 0,.int (x/12)] (mem s) Q fy):aE (n+1) .dh [.ref 0,.int x] (mem s) Q fy:=gQ rfl (kV 0 (jO hk)<|kV 0 (bw x 12)<|kQ 15 h (λv' m' hQ=>(hQ)))
theorem ajn(hk:x%12=7)(h:aE n .lu [.ref 0,.int (x/12)] (mem s) Q fy):aE (n+1) .dh [.ref 0,.int x] (mem s) Q fy:=gQ rfl (kV 0 (jO hk)<|kV 0 (bw x 12)<|kQ 17 h (λv' m' hQ=>(hQ)))
theorem agP(hk:x%12=11)(h:aE n .dG [.ref 0,.int (x/12)] (mem s) Q fy):aE (n+1) .dh [.ref 0,.int x] (mem s) Q fy:=gQ rfl (kV 0 (jO hk)<|kV 0 (bw x 12)<|kQ 20 h (λv' m' hQ=>(hQ)))
theorem aid(hk:x%12=5)(h3:x/12%3=0)(h:aE n .gr [.ref 0,.int (x/12/3)] (mem s) Q fy):aE (n+1) .dh [.ref 0,.int x] (mem s) Q fy:=gQ rfl (kV 0 (jO hk)<|kV 0 (bw x 12)<|kV 19 (akJ h3)<|kV 2 (bw (x/12) 3)<|kQ 0 h (λv' m' hQ=>(hQ)))
theorem agN(hk:x%12=5)(h3:x/12%3≠0)(h:aE n .dG [.ref 0,.int (x/12)] (mem s) Q fy):aE (n+1) .dh [.ref 0,.int x] (mem s) Q fy:=gQ rfl (kV 0 (jO hk)<|kV 0 (bw x 12)<|kV 19 (aQ (x/12) 3)<|kB 0 (aT (aH h3))<|kQ 1 h (λv' m' hQ=>(hQ)))
end
end
section
noncomputable def rB(l:List Int)(i:Int):Int:=l.getD (i%(l.length:Int)).toNat 0+7919*(i/(l.length:Int))
section
variable(n:Nat)
theorem agY(l:List Int)(i:Int)(h0:0<l.length)(h1:l.length<100):aq (aE (n+1) .eH [.ref 0,.int i] [aj l]) (.int (rB l i)) [aj l]:=by
 have c:((vi l).length:Int)=(l.length:Int):=bk Int.ofNat (Sy ..);have p:(0:Int)<(l.length:Int):=Xh.mpr h0;have hl:some (V.int ((vi l).length:Int))=some (.int (l.length:Int)):=by rw[c]
 have hi:=qz l (i%(l.length:Int)) (Yc i (Wq p)) (Yd i p) (SM h1 (by decide));exact gS rfl rfl (kV 0 hl<|kV 0 (aQ i (l.length:Int) p)<|kV 0 hi<|kV 0 hl<|kV 0 (bw i (l.length:Int) ⟨p,TH.mpr (SM h1 (by decide))⟩)<|gZ 2)
theorem LD(l:List Int)(i:Int)(h0:0<l.length)(h1:l.length<100)(a:Nat)(M:ai)(g:b7 [(a,aj l)] M):aq (aE (n+1) .eH [.ref a,.int i] M) (.int (rB l i)) M:=
 eB (agY n l i h0 h1) (Em.of g rfl (ec (az _ l) rfl) rfl)
theorem DB:aq (aE (n+4) .s9 [.ref 0,.int 2,.int 0] [.inst .cX []]) .none [.inst .cX [(.cR,.int 2),(.bW,.int 0),(.b6,.ref 5),(.bL,.ref 10),(.f6,.ref 11)],.list [],.list [],.list [],.list [],dJ 6 7 8 9 false,.list [],.list [],.list [],.list [],.dict .int [],.dict .int []]:=by have hr:=bZ (n+1) λ_=>false;exact gF rfl (jE 5 (hr 1)<|jE 0 (hr 2)<|jE 0 (hr 3)<|jE 0 (hr 4)<|kE)
theorem Eo(sp:Int):aq (aE (n+1) .zq [.ref 0,.int sp] [.inst .kr []]) .none [.inst .kr [(.mL,.int sp),(.gG,.int 0),(.gK,.ref 1),(.dZ,.bool false)],.dict .int []]:=
 gF rfl kE
theorem Eb:aq (aE (n+1) .qX [.ref 0,.int 1] [.inst .fO []]) .none [.inst .fO [(.lU,.int 1),(.iO,.int 0),(.eG,.ref 1),(.gO,.ref 2)],.dict .bytes [],.list []]:=
 gF rfl kE
end
end
section
noncomputable abbrev g4:O:=aj [1,1,2,0]
noncomputable def s0(t:Int→Int)(sp:Int):St:=⟨t,λ_=>0,false,λ_=>m8 9,9,sp,0,[],false,0,λ_=>0,λ_=>0,[],[],λ_=>[],0,[],0,[]⟩
section
variable(n:Nat)(t:Int→Int)(sp:Int)
noncomputable abbrev tS:lY:=fq t
noncomputable abbrev acH:ai:=sZ I (λ_=>m8 9) (λ_=>false) (λ_=>false) (tS t) (λ_=>false) false 2 8 (λ_=>false) []
noncomputable abbrev afN:ai:=sZ I (λ_=>m8 9) (λ_=>false) (λ_=>false) (tS t) (λ_=>false) false 47 28 (ud (λ_=>false) (λ_=>false) (tS t) (ah (ao (s0 t sp)))) ([aj (ah (ao (s0 t sp))),.dict .int ((ah (ao (s0 t sp))).map (fV I λ_=>false))]++(EG I 9 (λj:Nat=>ao (s0 t sp) j) (two t)++[dJ 48 49 50 51 false,aj (ah (aA t)),aj (ah λ_=>false),aj (ah (two t)),aj (ah (bu t))]))
noncomputable abbrev agW:ai:=zM I (s0 t sp) (λ_=>false) A3 ((ah (ao (s0 t sp))).map (fc I λ_=>false)) (CP (s0 t sp) λj:Nat=>ao (s0 t sp) j)
structure iP:Prop where
 mb:vJ (tS t) (λ_=>false)=ao (s0 t sp)
 fr:vY (λ_=>false) (ah (ao (s0 t sp)))= λj:Nat=>ao (s0 t sp) j
 ck:MH (tS t) (λ_=>false) false
theorem iP.DG(S:iP t sp):aq (aE (n+4) .bB [.ref 0,.ref 1,.int 9] (acH t)) .none (afN t sp):=by have h:=Py n (λ_=>m8 9) (λ_=>false) (λ_=>false) (λ_=>false) (tS t) (λ_=>false) false 9 S.ck λ_ _=>rfl;rw[S.mb] at h;unfold adZ at h;rw[S.fr] at h;exact h
theorem iP.aa8(S:iP t sp):aq (aE (n+1) .cN [.ref 0] (lpB (s0 t sp) λ_=>false)) .none (agW t sp):=by have h:=DK n (s0 t sp) λ_=>false;unfold lpZ at h;rw[S.fr] at h;exact h
theorem Dp(f:Nat→Nat):(afN t sp).map (O.bM f)=sZ f (λ_=>m8 9) (λ_=>false) (λ_=>false) (tS t) (λ_=>false) false (f 47) (f 28) (ud (λ_=>false) (λ_=>false) (tS t) (ah (ao (s0 t sp)))) ([aj (ah (ao (s0 t sp))),.dict .int ((ah (ao (s0 t sp))).map (fV f λ_=>false))]++(EG f 9 (λj:Nat=>ao (s0 t sp) j) (two t)++[dJ (f 48) (f 49) (f 50) (f 51) false,aj (ah (aA t)),aj (ah λ_=>false),aj (ah (two t)),aj (ah (bu t))])):=
 (mq _ _ _ _ _ _ _ _ 47 28 _).trans (bk (sZ _ _ _ _ _ _ _ _ _ _) (ec (az _ _) (ec (bk (O.dict .int) (sV _ _ _)) ((sI f (two t) 9 (λj:Nat=>ao (s0 t sp) j) [dJ 48 49 50 51 false,aj (ah (aA t)),aj (ah λ_=>false),aj (ah (two t)),aj (ah (bu t))]).trans (bk _ (ec rfl (ec (az _ _) (ec (az _ _) (ec (az _ _) (ec (az _ _) rfl))))))))))
theorem Ep(f:Nat→Nat):(agW t sp).map (O.bM f)=zM f (s0 t sp) (λ_=>false) (λi=>f (A3 i)) ((ah (ao (s0 t sp))).map (fc f λ_=>false)) (CP (s0 t sp) λj:Nat=>ao (s0 t sp) j):=(xq f (s0 t sp) _ A3 _ _).trans (by rw[lC,qH])
end
noncomputable def alS:List Bool:=[true,true,false,false,true,true,true,true,true]++SR 18 false
noncomputable def alT:List Bool:=SR 47 true++SR 65 false
section
variable(n:Nat)(p0 p1 p2:O)(t:Int→Int)(sp:Int)
noncomputable abbrev b0A:ai:=[p0,p1,p2]++[L.aj (tl t),g4,g4,g4,g4,L.aj (ah (aA t)),L.aj (ah (two t)),.list [.ref 8,.ref 9],.inst .cX [(.cR,.int 2),(.bW,.int 0),(.b6,.ref 16),(.bL,.ref 21),(.f6,.ref 22)],.list [],.list [],.list [],.list [],dJ 17 18 19 20 false,.list [],.list [],.list [],.list [],.dict .int [],.dict .int [],
 .list [],.list [],dJ 26 27 28 29 false,L.aj (ah (aA t)),.list [],L.aj (ah (two t)),L.aj (ah (bu t))]
noncomputable def mAA:List Nat:=[11,25,16,22,26,27,28,29,21,0,0,0,0,0,0,0,0,0,0,0,0,0,0,0,0,0,0]
noncomputable abbrev fAA:Nat→Nat:=bQ mAA 30
noncomputable def t0A:ai:=(b0A p0 p1 p2 t).set 11 (.inst .cX [(.cR,.int 2),(.bW,.int 0),(.b6,.ref 50),(.bL,.ref 31),(.f6,.ref 22)])++([aj (ah (ao (s0 t sp))),.dict .int ((ah (ao (s0 t sp))).map (fV fAA λ_=>false))]++(EG fAA 9 (λj:Nat=>ao (s0 t sp) j) (two t)++[dJ 51 52 53 54 false,aj (ah (aA t)),.list [],aj (ah (two t)),aj (ah (bu t))]))
theorem Q5(S:iP t sp):aq (aE (n+4) .bB [.ref 11,.ref 25,.int 9] (b0A p0 p1 p2 t)) .none (t0A p0 p1 p2 t sp):=by have E:Em fAA (acH t) (b0A p0 p1 p2 t):=Em.vz (d9:=mAA) (al:=alS) (m:=b0A p0 p1 p2 t) 30 rfl (by kernel_rfl) rfl (mq _ _ _ _ _ _ _ _ 2 8 []) rfl rfl;exact qb (S.DG n) E (rC [0,1,4,5,6,7,8] E (by kernel_rfl) (by kernel_rfl) (by kernel_rfl) (Dp t sp fAA) (by kernel_rfl) (by kernel_rfl) (by kernel_rfl) (by kernel_rfl) (by kernel_rfl))
noncomputable def mWA:List Nat:=[68,3,55,56,59,63,64,65,67,11,57,60,66]
noncomputable def b1A:ai:=t0A p0 p1 p2 t sp++[L.aj [0,0,0,0,0,0],.dict .int [],.inst .kr [(.mL,.int sp),(.gG,.int 0),(.gK,.ref 58),(.dZ,.bool false)],.dict .int [],.list [],.inst .fO [(.lU,.int 1),(.iO,.int 0),(.eG,.ref 61),(.gO,.ref 62)],.dict .bytes [],.list [],.list [],.list [],.list [],.list [],.list [],wO (bQ mWA 0) (s0 t sp)]
noncomputable def mBA:List Nat:=mWA++SR 6 0
noncomputable abbrev fBA:Nat→Nat:=bQ mBA 69
noncomputable def t1A:ai:=(b1A p0 p1 p2 t sp).set 68 (wO (λi=>fBA (A3 i)) (s0 t sp))++([.dict .int ((ah (ao (s0 t sp))).map (fc fBA λ_=>false))]++CP (s0 t sp) λj:Nat=>ao (s0 t sp) j)
theorem JZ(S:iP t sp):aq (aE (n+1) .cN [.ref 68] (b1A p0 p1 p2 t sp)) .none (t1A p0 p1 p2 t sp):=by have E:Em fBA (lpB (s0 t sp) λ_=>false) (b1A p0 p1 p2 t sp):=Em.vz (d9:=mBA) (al:=lpL) (m:=b1A p0 p1 p2 t sp) 69 (by kernel_rfl) (by kernel_rfl) rfl (wZ _ _ _) rfl (by kernel_rfl);exact qb (S.aa8 n) E (rC [0,1,2,3] E (by kernel_rfl) (by kernel_rfl) (by kernel_rfl) (Ep t sp fBA) (by kernel_rfl) (by kernel_rfl) (by kernel_rfl) (by kernel_rfl) (by kernel_rfl))
noncomputable def mCA:List Nat:=[68,3,55,69,59,63,64,65,67,11,57,60,66,50,51,52,53,54,31,22,58,61,62,70,34,32,33,71,37,35,36,72,40,38,39,73,43,41,42,74,46,44,45,75,49,47,48,0,0,0,0,0,0,0,0,0,0,0,0,0,0,0,0,0,0,0,0,0,0,0,0,0,0,0,0,0,0,0,0,0,0,0,0,0,0,0,0,0,0,0,0,0,0,0,0,0,0,0,0,0,0,0,0,0,0,0,0,0,0,0,0,0]
theorem Rx:q8 68 (bQ mCA 76) (s0 t sp) (t1A p0 p1 p2 t sp):=
 ⟨Em.vz (d9:=mCA) (al:=alT) (ms:=mem (s0 t sp)) (m:=t1A p0 p1 p2 t sp) 76 (by kernel_rfl) (by kernel_rfl) rfl (nV I _ (s0 t sp) _ _) (by kernel_rfl) (by kernel_rfl),rfl⟩
end
section
variable(n:Nat)(p0 p1 p2 p3:O)(t:Int→Int)(sp:Int)
noncomputable abbrev b0B:ai:=[p0,p1,p2,p3]++[L.aj (tl t),g4,g4,g4,g4,L.aj (ah (aA t)),L.aj (ah (two t)),.list [.ref 9,.ref 10],.inst .cX [(.cR,.int 2),(.bW,.int 0),(.b6,.ref 17),(.bL,.ref 22),(.f6,.ref 23)],.list [],.list [],.list [],.list [],dJ 18 19 20 21 false,.list [],.list [],.list [],.list [],.dict .int [],.dict .int [],
 .list [],.list [],dJ 27 28 29 30 false,L.aj (ah (aA t)),.list [],L.aj (ah (two t)),L.aj (ah (bu t))]
noncomputable def mAB:List Nat:=[12,26,17,23,27,28,29,30,22,0,0,0,0,0,0,0,0,0,0,0,0,0,0,0,0,0,0]
noncomputable abbrev fAB:Nat→Nat:=bQ mAB 31
noncomputable def t0B:ai:=(b0B p0 p1 p2 p3 t).set 12 (.inst .cX [(.cR,.int 2),(.bW,.int 0),(.b6,.ref 51),(.bL,.ref 32),(.f6,.ref 23)])++([aj (ah (ao (s0 t sp))),.dict .int ((ah (ao (s0 t sp))).map (fV fAB λ_=>false))]++(EG fAB 9 (λj:Nat=>ao (s0 t sp) j) (two t)++[dJ 52 53 54 55 false,aj (ah (aA t)),.list [],aj (ah (two t)),aj (ah (bu t))]))
theorem aag(S:iP t sp):aq (aE (n+4) .bB [.ref 12,.ref 26,.int 9] (b0B p0 p1 p2 p3 t)) .none (t0B p0 p1 p2 p3 t sp):=by have E:Em fAB (acH t) (b0B p0 p1 p2 p3 t):=Em.vz (d9:=mAB) (al:=alS) (m:=b0B p0 p1 p2 p3 t) 31 rfl (by kernel_rfl) rfl (mq _ _ _ _ _ _ _ _ 2 8 []) rfl rfl;exact qb (S.DG n) E (rC [0,1,4,5,6,7,8] E (by kernel_rfl) (by kernel_rfl) (by kernel_rfl) (Dp t sp fAB) (by kernel_rfl) (by kernel_rfl) (by kernel_rfl) (by kernel_rfl) (by kernel_rfl))
noncomputable def mWB:List Nat:=[69,4,56,57,60,64,65,66,68,12,58,61,67]
noncomputable def b1B:ai:=t0B p0 p1 p2 p3 t sp++[L.aj [0,0,0,0,0,0],.dict .int [],.inst .kr [(.mL,.int sp),(.gG,.int 0),(.gK,.ref 59),(.dZ,.bool false)],.dict .int [],.list [],.inst .fO [(.lU,.int 1),(.iO,.int 0),(.eG,.ref 62),(.gO,.ref 63)],.dict .bytes [],.list [],.list [],.list [],.list [],.list [],.list [],wO (bQ mWB 0) (s0 t sp)]
noncomputable def mBB:List Nat:=mWB++SR 6 0
noncomputable abbrev fBB:Nat→Nat:=bQ mBB 70
noncomputable def t1B:ai:=(b1B p0 p1 p2 p3 t sp).set 69 (wO (λi=>fBB (A3 i)) (s0 t sp))++([.dict .int ((ah (ao (s0 t sp))).map (fc fBB λ_=>false))]++CP (s0 t sp) λj:Nat=>ao (s0 t sp) j)
theorem Ke(S:iP t sp):aq (aE (n+1) .cN [.ref 69] (b1B p0 p1 p2 p3 t sp)) .none (t1B p0 p1 p2 p3 t sp):=by have E:Em fBB (lpB (s0 t sp) λ_=>false) (b1B p0 p1 p2 p3 t sp):=Em.vz (d9:=mBB) (al:=lpL) (m:=b1B p0 p1 p2 p3 t sp) 70 (by kernel_rfl) (by kernel_rfl) rfl (wZ _ _ _) rfl (by kernel_rfl);exact qb (S.aa8 n) E (rC [0,1,2,3] E (by kernel_rfl) (by kernel_rfl) (by kernel_rfl) (Ep t sp fBB) (by kernel_rfl) (by kernel_rfl) (by kernel_rfl) (by kernel_rfl) (by kernel_rfl))
noncomputable def mCB:List Nat:=[69,4,56,70,60,64,65,66,68,12,58,61,67,51,52,53,54,55,32,23,59,62,63,71,35,33,34,72,38,36,37,73,41,39,40,74,44,42,43,75,47,45,46,76,50,48,49,0,0,0,0,0,0,0,0,0,0,0,0,0,0,0,0,0,0,0,0,0,0,0,0,0,0,0,0,0,0,0,0,0,0,0,0,0,0,0,0,0,0,0,0,0,0,0,0,0,0,0,0,0,0,0,0,0,0,0,0,0,0,0,0,0]
theorem Qe:q8 69 (bQ mCB 77) (s0 t sp) (t1B p0 p1 p2 p3 t sp):=
 ⟨Em.vz (d9:=mCB) (al:=alT) (ms:=mem (s0 t sp)) (m:=t1B p0 p1 p2 p3 t sp) 77 (by kernel_rfl) (by kernel_rfl) rfl (nV I _ (s0 t sp) _ _) (by kernel_rfl) (by kernel_rfl),rfl⟩
end
end
section
theorem aif(zs:List Int):qN (vi zs) none (some 15)=vi (zs.take 15):=by
 show((vi zs).take (Ur (vi zs).length ((15:Nat):Int))).drop 0=(zs.take 15).map V.int;rw[apk,aqi];rcases aqe 15 (vi zs).length with h|h
 ·rw[pO _ h]
 ·rw[Mh h,WU];exact(List.take_of_length_le h).symm
theorem HL(zs:List Int)(M:ai)(g:b7 [(0,.bare (vi zs))] M):iw (.ref 0) none (some 15) M=.ok (.ref M.next) (M.push (aj (zs.take 15))):=by
 show(M.get 0).bind _=_;rw[IG g rfl];show some (V.ref M.next,M.push (.list (qN (vi zs) none (some 15))))=_
 rw[aif];rfl
noncomputable def fY(zs:List Int):List Int:=(zs.take 15).map (· %999983)
section
variable(n:Nat)(zs:List Int)
noncomputable abbrev nmE:List V:=[.ref 0,.af,.af,.af,.af,.af,.af,.af,.af,.af,.af,.af,.af]
theorem agd:aq (vM n (aY .law 0).ex nmE (.ref 1) [.bare (vi zs),aj (zs.take 15)]) (.ref 2) [.bare (vi zs),aj (zs.take 15),aj (fY zs)]:=by have h:=pq.zp (n:=n) (t:= .aA 10) (v:= .ref 1) (cs:= .zn) (el:=(aY .law 0).ex.el) (env:=nmE) (m:=[.bare (vi zs),aj (zs.take 15)]) (c:=V.int) (l:=zs.take 15) (g:= λx=>some (x%999983)) rfl (Sz (aqn ..) (by decide)) λx _=>gC (kV 0 (aQ x 999983)<|kI 0 (some (SP V.int (apS 15 zs)))<|kE);rw[VP] at h;exact h
end
noncomputable def aV(x:Int)(j:Nat):Int:=([1,1,2,0]:List Int).getD (x/4^j%4).toNat 0
theorem vV(x:Int)(j:Nat):bA (vi [1,1,2,0]) (x/4^j%4)=some (.int (aV x j)):=
 have h:=mY (x/4^j) 4 4 rfl (by decide)
 qz [1,1,2,0] _ h.1 h.2.1 (by decide)
noncomputable def dz(x:Int)(i:Int):Int:=([0,1,aV x 0,aV x 1,aV x 2,aV x 3]:List Int).getD i.toNat 0
noncomputable def qK(x:Int):Int:=2+x/256%5
section
variable(n:Nat)(t:Int→Int)
noncomputable abbrev ptE:E:=(aY .law 6).ex.el
noncomputable abbrev abo(a L:Nat)(x sp r:Int):List V:=[.ref 0,.ref a,.int x,.ref L,.af,.int sp,.af,.af,.af,.af,.af,.int r,.af]
theorem Qu(a L:Nat)(x sp r:Int)(M:ai)(ha:M.get L=some (aj (tl t))):aq (vM n ptE (abo a L x sp r) (.range 0 6) M) (.ref M.next) (M.push (aj (ah λj=>decide (t j=r)))):=by
 have it:∀j,j∈U6→item (.ref L) (.int j) M=some (.int (t j)):= λj hj=>by show(M.get L).bind _=_;rw[ha];exact kg t j hj
 have h:=pq.zp (n:=n) (t:= .aA 12) (v:= .range 0 6) (cs:=ptE.cs) (el:= .zv 12) (env:=abo a L x sp r) (m:=M) (c:=V.int) (l:=U6) (g:= λj=>if decide (t j=r)=true then some j else none) rfl (by decide) λj hj=>by
  cases c:decide (t j=r) with
  |true=>exact gC (kV 0 (it j hj)<|kB 0 (aT c)<|kI 1 (some (SP V.int U6))<|kE)
  |false=>exact gC (kV 0 (it j hj)<|kB 0 (aT c)<|kI 1 (some (SP V.int U6))<|kE)
 rw[ku] at h;exact h
end
end
section
noncomputable def C3(k:KV):KV:= λx sc m=>ask An.qi (truthy x m) sc λr sc=>k (.bool (!r)) sc m
noncomputable def orK(C:Cl)(env:List V)(es:Es)(k:KV)(kx:KX):KV:= λx sc m=>ask An.qi (truthy x m) sc λr sc=>cT.two r (k x sc m) (rOr C env es sc m k kx)
noncomputable def ifK(C:Cl)(env:List V)(t e:Ss)(k:KF)(kx:KX):KV:= λv sc m=>ask An.qi (truthy v m) sc λb sc=>cT.two b (rX C t env sc m k kx) (rX C e env sc m k kx)
noncomputable def aka(v:V)(bD:List V)(bf:List Nat)(J:List V→ai→Prop)(r:V→Sc→ai→Prop):KF:= λf sc m₁=>match f with
 |.ret x=>r x sc m₁
 |.next e=>guard (aO v m₁=some bD) sc λsc=>J (cC bf e) m₁
 |.cont e=>guard (aO v m₁=some bD) sc λsc=>J (cC bf e) m₁
noncomputable def S.thn:S→Ss
 |.cO _ t _=>t
 |_=> .zn
noncomputable def E.ors:E→Es
 |.or es=>es
 |_=> .zn
noncomputable def Es.tl:Es→Es
 |.zn=> .zn
 |.zc _ es=>es
noncomputable abbrev iS:S:=aY .law 11
noncomputable abbrev lS:S:=S.body (aY .law 12)|>.LG 0
section
variable(n:Nat)(a w:Nat)(v0 v2 v3 v4 v5 v6 v7:V)(x:Int)(m m0:ai)(Q:V→ai→Prop)
noncomputable abbrev Fq(i:V):List V:=[v0,.ref a,v2,v3,v4,v5,v6,v7,.ref w,i,.af,.af,.af]
noncomputable abbrev K13(R:V→ai→Prop):KF:=adW (qn (n+9)) (Ss.drop (prog .law).body 13) (FA .keep m0 λv _ m=>R v m) fy
noncomputable abbrev K12(R:V→ai→Prop):KF:=adW (qn (n+9)) (Ss.drop (prog .law).body 12) (FA .keep m0 λv _ m=>R v m) fy
noncomputable abbrev iK(R:V→ai→Prop):KV:=ifK (qn (n+9)) (Fq a w v0 v2 v3 v4 v5 v6 v7 .af) (S.thn iS) .zn (K12 n m0 R) fy
theorem tl3{R:V→ai→Prop}(hs:aq (aE (n+9) .aK [.ref w] m) (.bool true) m)(hR:R (.bool true) m):∃sc,K13 n m0 R (.next (Fq a w v0 v2 v3 v4 v5 v6 v7 .af)) sc m:=
 gT hR (kC 0 hs kE) (by kernel_rfl)
theorem tl2{R:V→ai→Prop}{Q3:Fl→ai→Prop}(hl:zC (n+9) (aY .law 12) (Fq a w v0 v2 v3 v4 v5 v6 v7 .af) (.range 3 15) m Q3 fy)(h3:∀f m,Q3 f m→∃sc,K13 n m0 R f sc m):∃sc,C3 (iK n a w v0 v2 v3 v4 v5 v6 v7 m0 R) (.bool true) sc m:=
 gT trivial (kQf 3 hl h3) (by kernel_rfl)
theorem tl1{R:V→ai→Prop}(hd:aq (aE (n+9) .eH [.ref a,.int 2] m) (.int x) m)(hc:aE (n+9) .cg [.ref w,.int x] m Q fy)(h2:∀v m,Q v m→∃sc,C3 (iK n a w v0 v2 v3 v4 v5 v6 v7 m0 R) v sc m):∃sc,C3 (orK (qn (n+9)) (Fq a w v0 v2 v3 v4 v5 v6 v7 .af) (Es.tl (E.ors iS.ex)) (iK n a w v0 v2 v3 v4 v5 v6 v7 m0 R) fy) (.bool true) sc m:=
 gT trivial (kC 2 hd<|kQs 0 hc h2) (by kernel_rfl)
variable(i:Int)(bD:List V)(J:List V→ai→Prop)(r:V→Sc→ai→Prop)
noncomputable abbrev lK:KV:=ifK (qn (n+9)) (Fq a w v0 v2 v3 v4 v5 v6 v7 (.int i)) (S.thn lS) .zn (aka (.range 3 15) bD [9] J r) fy
theorem te2(hi:aO (.range 3 15) []=some bD)(hs:aq (aE (n+9) .gz [.ref w] m) (.bool true) m)(hJ:J (Fq a w v0 v2 v3 v4 v5 v6 v7 .af) m):∃sc,C3 (orK (qn (n+9)) (Fq a w v0 v2 v3 v4 v5 v6 v7 (.int i)) (Es.tl (E.ors lS.ex)) (lK n a w v0 v2 v3 v4 v5 v6 v7 i bD J r) fy) (.bool true) sc m:=
 gT hJ (kC 2 hs<|kG 2 hi kE) (by kernel_rfl)
theorem te1(hd:aq (aE (n+9) .eH [.ref a,.int i] m) (.int x) m)(hc:aE (n+9) .dh [.ref w,.int x] m Q fy)(h2:∀v m,Q v m→∃sc,C3 (orK (qn (n+9)) (Fq a w v0 v2 v3 v4 v5 v6 v7 (.int i)) (Es.tl (E.ors lS.ex)) (lK n a w v0 v2 v3 v4 v5 v6 v7 i bD J r) fy) v sc m):∃sc,jK (.aA 9) (λenv sc m k=>rX (qn (n+9)) (S.body (aY .law 12)) env sc m k λ_=>False) (.range 3 15) bD [9] (λ_ e _ m=>J e m) r (.int i) [] (Fq a w v0 v2 v3 v4 v5 v6 v7 .af) m sc:=
 gT trivial (kC 0 hd<|kQs 0 hc h2) (by kernel_rfl)
end
end
section
section
variable(n:Nat)(zs:List Int)(x x1:Int)(Q R:V→ai→Prop)
theorem agr(hz:fY zs≠[])(d0:∀M,b7 [(2,aj (fY zs))] M→aq (aE (n+9) .eH [.ref 2,.int 0] M) (.int x) M)(d1:∀M,b7 [(2,aj (fY zs))] M→aq (aE (n+9) .eH [.ref 2,.int 1] M) (.int x1) M)(S:iP (dz x) (qK x))(h3:ah (bu (dz x))=[])
  (hrd:aE (n+9) .gk [.ref 68,.int x1] (t1A (.bare (vi zs)) (aj (zs.take 15)) (aj (fY zs)) (dz x) (qK x)) Q fy)
  (hR:∀v m,Q v m→∃sc,C3 (orK (qn (n+9)) (Fq 2 68 (.ref 0) (.int x) (.ref 3) .af (.int (qK x)) (.ref 10) (.ref 11) .af) (Es.tl (E.ors iS.ex)) (iK n 2 68 (.ref 0) (.int x) (.ref 3) .af (.int (qK x)) (.ref 10) (.ref 11) (uJ zs) R) fy) v sc m):aE (n+10) .law [.ref 0] (uJ zs) R fy:=by
 have hn:=agd (n+9) zs;have hp1:=Qu (n+9) (dz x) 2 3 x (qK x) 1 ([.bare (vi zs),aj (zs.take 15),aj (fY zs)]++[aj (tl (dz x)),g4,g4,g4,g4]) rfl;have hp2:=Qu (n+9) (dz x) 2 3 x (qK x) 2 ([.bare (vi zs),aj (zs.take 15),aj (fY zs)]++[aj (tl (dz x)),g4,g4,g4,g4,aj (ah (aA (dz x)))]) rfl;have ht:=jZ (DB (n+5)) (λ_=>rfl) ([.bare (vi zs),aj (zs.take 15),aj (fY zs)]++[aj (tl (dz x)),g4,g4,g4,g4,aj (ah (aA (dz x))),aj (ah (two (dz x))),.list [.ref 8,.ref 9]]);have r1:=bZ (n+7) (aA (dz x)) 8;have r2:=bZ (n+7) (λ_=>false) 23;have r3:=bZ (n+7) (two (dz x)) 9;have r4:∀M,b7 [(24,.list [])] M→aq (aE (n+8) .gq [.ref 24] M) (.ref M.next) (M.push (aj (ah (bu (dz x))))):=by rw[h3];exact bZ (n+7) (λ_=>false) 24
 have ha:=Q5 (n+5) (.bare (vi zs)) (aj (zs.take 15)) (aj (fY zs)) (dz x) (qK x) S;have hl:=jZ (Eo (n+8) (qK x)) (λ_=>rfl) (t0A (.bare (vi zs)) (aj (zs.take 15)) (aj (fY zs)) (dz x) (qK x)++[aj [0,0,0,0,0,0],.dict .int []]);have hr:=jZ (Eb (n+8)) (λ_=>rfl) (t0A (.bare (vi zs)) (aj (zs.take 15)) (aj (fY zs)) (dz x) (qK x)++[aj [0,0,0,0,0,0],.dict .int [],.inst .kr [(.mL,.int (qK x)),(.gG,.int 0),(.gK,.ref 58),(.dZ,.bool false)],.dict .int [],.list []]);have hb:=JZ (n+8) (.bare (vi zs)) (aj (zs.take 15)) (aj (fY zs)) (dz x) (qK x) S;exact gQ rfl (kM 0 (HL zs)<|kC 0 hn<|kB 1 (aT (i:=((vi (fY zs)).length:Int)) (j:=0) (aH λe=>hz (UI.mp (Zb.mp (Ye e)))))<|kR 1 d0<|kV 7 (bw x ((4:Int)^0))<|kV 0 (aQ (x/(4:Int)^0) 4)<|kV 0 (vV x 0)<|kV 5 (bw x ((4:Int)^1))<|kV 0 (aQ (x/(4:Int)^1) 4)<|kV 0 (vV x 1)<|kV 5 (bw x ((4:Int)^2))<|kV 0 (aQ (x/(4:Int)^2) 4)<|kV 0 (vV x 2)<|kV 5 (bw x ((4:Int)^3))<|kV 0 (aQ (x/(4:Int)^3) 4)<|kV 0 (vV x 3)<|kV 2 (bw x 256)<|kV 0 (aQ (x/256) 5)<|kC 5 hp1<|kC 2 hp2<|kC 2 ht<|jE 6 r1<|jE 0 r2<|jE 0 r3<|jE 0 r4<|kC 0 ha<|kC 1 hl<|kC 1 hr<|kC 6 hb<|kR 0 d1<|kQs 0 hrd hR)
end
section
variable(n:Nat)(zs:List Int)(x x1:Int)(Q R:V→ai→Prop)
theorem ah4(hz:fY zs=[])(d0:∀M,b7 [(3,aj [0])] M→aq (aE (n+9) .eH [.ref 3,.int 0] M) (.int x) M)(d1:∀M,b7 [(3,aj [0])] M→aq (aE (n+9) .eH [.ref 3,.int 1] M) (.int x1) M)(S:iP (dz x) (qK x))(h3:ah (bu (dz x))=[])
  (hrd:aE (n+9) .gk [.ref 69,.int x1] (t1B (.bare (vi zs)) (aj (zs.take 15)) (aj (fY zs)) (aj [0]) (dz x) (qK x)) Q fy)
  (hR:∀v m,Q v m→∃sc,C3 (orK (qn (n+9)) (Fq 3 69 (.ref 0) (.int x) (.ref 4) .af (.int (qK x)) (.ref 11) (.ref 12) .af) (Es.tl (E.ors iS.ex)) (iK n 3 69 (.ref 0) (.int x) (.ref 4) .af (.int (qK x)) (.ref 11) (.ref 12) (uJ zs) R) fy) v sc m):aE (n+10) .law [.ref 0] (uJ zs) R fy:=by
 have hn:=agd (n+9) zs;have hp1:=Qu (n+9) (dz x) 3 4 x (qK x) 1 ([.bare (vi zs),aj (zs.take 15),aj (fY zs),aj [0]]++[aj (tl (dz x)),g4,g4,g4,g4]) rfl;have hp2:=Qu (n+9) (dz x) 3 4 x (qK x) 2 ([.bare (vi zs),aj (zs.take 15),aj (fY zs),aj [0]]++[aj (tl (dz x)),g4,g4,g4,g4,aj (ah (aA (dz x)))]) rfl;have ht:=jZ (DB (n+5)) (λ_=>rfl) ([.bare (vi zs),aj (zs.take 15),aj (fY zs),aj [0]]++[aj (tl (dz x)),g4,g4,g4,g4,aj (ah (aA (dz x))),aj (ah (two (dz x))),.list [.ref 9,.ref 10]]);have r1:=bZ (n+7) (aA (dz x)) 9;have r2:=bZ (n+7) (λ_=>false) 24;have r3:=bZ (n+7) (two (dz x)) 10;have r4:∀M,b7 [(25,.list [])] M→aq (aE (n+8) .gq [.ref 25] M) (.ref M.next) (M.push (aj (ah (bu (dz x))))):=by rw[h3];exact bZ (n+7) (λ_=>false) 25
 have ha:=aag (n+5) (.bare (vi zs)) (aj (zs.take 15)) (aj (fY zs)) (aj [0]) (dz x) (qK x) S;have hl:=jZ (Eo (n+8) (qK x)) (λ_=>rfl) (t0B (.bare (vi zs)) (aj (zs.take 15)) (aj (fY zs)) (aj [0]) (dz x) (qK x)++[aj [0,0,0,0,0,0],.dict .int []]);have hr:=jZ (Eb (n+8)) (λ_=>rfl) (t0B (.bare (vi zs)) (aj (zs.take 15)) (aj (fY zs)) (aj [0]) (dz x) (qK x)++[aj [0,0,0,0,0,0],.dict .int [],.inst .kr [(.mL,.int (qK x)),(.gG,.int 0),(.gK,.ref 59),(.dZ,.bool false)],.dict .int [],.list []]);have hb:=Ke (n+8) (.bare (vi zs)) (aj (zs.take 15)) (aj (fY zs)) (aj [0]) (dz x) (qK x) S;exact gQ rfl (kM 0 (HL zs)<|kC 0 hn<|kB 1 (aT (i:=((vi (fY zs)).length:Int)) (j:=0) (aC (by rw[hz];rfl)))<|kR 2 d0<|kV 7 (bw x ((4:Int)^0))<|kV 0 (aQ (x/(4:Int)^0) 4)<|kV 0 (vV x 0)<|kV 5 (bw x ((4:Int)^1))<|kV 0 (aQ (x/(4:Int)^1) 4)<|kV 0 (vV x 1)<|kV 5 (bw x ((4:Int)^2))<|kV 0 (aQ (x/(4:Int)^2) 4)<|kV 0 (vV x 2)<|kV 5 (bw x ((4:Int)^3))<|kV 0 (aQ (x/(4:Int)^3) 4)<|kV 0 (vV x 3)<|kV 2 (bw x 256)<|kV 0 (aQ (x/256) 5)<|kC 5 hp1<|kC 2 hp2<|kC 2 ht<|jE 6 r1<|jE 0 r2<|jE 0 r3<|jE 0 r4<|kC 0 ha<|kC 1 hl<|kC 1 hr<|kC 6 hb<|kR 0 d1<|kQs 0 hrd hR)
end
end
section
def EV(w a:Nat)(l zs:List Int)(I:St→Prop)(m:ai):Prop:= ∃s f,I s∧q8 w f s m∧(m.get 0=some (.bare (vi zs))∧QZ f s m 0)∧m.get a=some (aj l)∧QZ f s m a
structure L6(n:Nat)(cV:Nat→St→Prop):Prop where
 s0:∀x,cV 0 (s0 (dz x) (qK x))
 read:∀s y,cV 0 s→dM n .gk [.int y] s (cV 1)
 xF:∀s y,cV 1 s→dM n .cg [.int y] s (cV 1)
 C9:∀k s y,1≤k→k<13→cV k s→dM n .dh [.int y] s (cV (k+1))
 II:∀k s,cV k s→k≤13→aq (aE n .gz [.ref 0] (mem s)) (.bool true) (mem s)
 uo:∀s,cV 13 s→aq (aE n .aK [.ref 0] (mem s)) (.bool true) (mem s)
section
variable{n w a:Nat}{l zs:List Int}{I I':St→Prop}{m:ai}
theorem EV.C9{g:Fn}{y:Int}(h:∀s,I s→dM n g [.int y] s I')(L:EV w a l zs I m):aE n g [.ref w,.int y] m (λv m'=>v=.bool true∧EV w a l zs I' m') fy:=
 let⟨s,f,hI,B,⟨e0,o0⟩,e1,o1⟩:=L
 (Ce.of (h s hI) (λ_=>rfl) w f m B).bg (λv m' ⟨e,s',f',h1,h2,h3⟩=>⟨e,s',f',h1,h2,⟨(h3 0 o0).1.trans e0,(h3 0 o0).2⟩,(h3 a o1).1.trans e1,(h3 a o1).2⟩) λ_ z=>z
theorem EV.look{g:Fn}(h:∀s,I s→aq (aE n g [.ref 0] (mem s)) (.bool true) (mem s))(L:EV w a l zs I m):aq (aE n g [.ref w] m) (.bool true) m:=by obtain⟨s,f,hI,B,_⟩:=L;have k:=eB (h s hI) B.em;rw[show V.fW f [.ref 0]=[.ref w] from bX (bk V.ref B.w) rfl] at k;exact k
theorem EV.draw(L:EV w a l zs I m)(i:Int)(h0:0<l.length)(h1:l.length<100):aq (aE (n+1) .eH [.ref a,.int i] m) (.int (rB l i)) m:=by
 obtain⟨s,f,hI,B,_,e,_⟩:=L;exact LD n l i h0 h1 a m (by show[aj l]=[(m.get a).getD .aM];rw[e];rfl)
end
theorem RU{t:nO}{body:List V→Sc→ai→KF→Prop}{v x:V}{bD l env:List V}{bf:List Nat}{J:List V→List V→Sc→ai→Prop}{r:V→Sc→ai→Prop}{m:ai}{sc:Sc}(h:jK t body v bD bf (λ_ e sc m=>J l e sc m) r x [] env m sc):jK t body v bD bf J r x l env m sc:=h
section
variable{n:Nat}{cV:Nat→St→Prop}(H:L6 (n+9) cV){a w:Nat}{l zs:List Int}(h0:0<l.length)(h1:l.length<100)(v0 v2 v3 v4 v5 v6 v7:V)
include H h0 h1
noncomputable abbrev Az:List Int:=[3,4,5,6,7,8,9,10,11,12,13,14]
theorem abK{m:ai}(L:EV w a l zs (cV 1) m):zC (n+9) (aY .law 12) (Fq a w v0 v2 v3 v4 v5 v6 v7 .af) (.range 3 15) m (λf m=>f=.next (Fq a w v0 v2 v3 v4 v5 v6 v7 .af)∧EV w a l zs (cV 13) m) fy:=
 let J:List V→List V→ai→Prop:= λl' env m=> ∃(k:Nat) (xs:List Int),l'=vi xs∧env=Fq a w v0 v2 v3 v4 v5 v6 v7 .af∧(1≤k∧k+xs.length=13)∧EV w a l zs (cV k) m;let Q3:Fl→ai→Prop:= λf m=>f=.next (Fq a w v0 v2 v3 v4 v5 v6 v7 .af)∧EV w a l zs (cV 13) m
 rO.intro (n:=n+9) (X:=fy) (Q:=Q3) (t:= .aA 9) (body:=S.body (aY .law 12)) (bf:=[9]) (v:= .range 3 15) (bD:=vi Az) (J:=J) (by kernel_rfl) ⟨1,Az,rfl,rfl,⟨SQ _,rfl⟩,L⟩
  (λx l' env m' ⟨k,xs,e1,e2,⟨k1,k2⟩,L⟩=>by
   subst e2;cases xs with
   |nil=>exact nomatch e1
   |cons i xs=>
    cases e1;have kl:k<13:=by rw[←k2];exact YY (WT _)
    have T:=te1 n a w v0 v2 v3 v4 v5 v6 v7 (rB l i) m' (λv m'=>v=.bool true∧EV w a l zs (cV (k+1)) m') i (vi Az) (λe m₁=>J (vi xs) e m₁∨Jc m.length (.range 3 15) (vi Az) (λl env _ m=>J l env m) (vi xs) e [] m₁) (λx _ m=>Q3 (.ret x) m) (L.draw i h0 h1) (L.C9 λs hs=>H.C9 k s _ k1 kl hs) λv m₁ ⟨e,L'⟩=>by subst e;exact te2 n a w v0 v2 v3 v4 v5 v6 v7 m₁ i (vi Az) _ _ (by kernel_rfl) (L'.look λs hs=>H.II (k+1) s hs kl) (.inl ⟨k+1,xs,rfl,rfl,⟨Th k1,by rw[←k2];exact Vg ..⟩,L'⟩)
    exact T.imp λsc h=>RU (J:= λl env sc m₁=>J l env m₁∨Jc m.length (.range 3 15) (vi Az) (λl env _ m=>J l env m) l env sc m₁) h)
  λenv m ⟨k,xs,e1,e2,⟨_,k2⟩,L⟩=>by
   cases xs with
   |nil=>subst e2;rw[show k=13 from k2] at L;exact⟨rfl,L⟩
   |cons i xs=>exact nomatch e1
theorem IY{R:V→ai→Prop}{m m0:ai}(L:EV w a l zs (cV 1) m)(hR:∀m,m.get 0=some (.bare (vi zs))→R (.bool true) m):∃sc,C3 (orK (qn (n+9)) (Fq a w v0 v2 v3 v4 v5 v6 v7 .af) (Es.tl (E.ors iS.ex)) (iK n a w v0 v2 v3 v4 v5 v6 v7 m0 R) fy) (.bool true) sc m:=
 tl1 n a w v0 v2 v3 v4 v5 v6 v7 (rB l 2) m m0 _ (L.draw 2 h0 h1) (L.C9 λs hs=>H.xF s _ hs) λv m₁ ⟨e,L'⟩=>by
  subst e;exact tl2 n a w v0 v2 v3 v4 v5 v6 v7 m₁ m0 (abK H h0 h1 v0 v2 v3 v4 v5 v6 v7 L') λf m₂ ⟨e,L₂⟩=>by subst e;exact tl3 n a w v0 v2 v3 v4 v5 v6 v7 m₂ m0 (L₂.look H.uo) (hR m₂ (by obtain⟨_,_,_,_,⟨e,_⟩,_⟩:=L₂;exact e))
end
end
section
theorem JL{l:List Int}{p q:Int→Bool}(h:∀i∈l,p i=true→q i=true)(hp:jV l p=true):jV l q=true:=by unfold jV CR at*;rw[UA] at*;refine hp.imp id λhp=>aC (SX (of_decide_eq_true hp) (Wr 2 ?_));rw[←ZA,←ZA];exact List.countP_mono_left h
theorem uy{a b:List Int}(ha:a≠[])(p:Int→Bool):gi a b p=(jV a p&&jV b p):=by
 have h1:jV a p=CR a p:=by
  unfold jV;cases a with
  |nil=>exact absurd rfl ha
  |cons=>exact V0 _
 rw[h1];unfold gi;cases b with
 |nil=>rw[aG rfl];rfl
 |cons x b=>
  rw[aJ (List.cons_ne_nil _ _)];show(CR a p&&(CR (x::b) p&&true))=(CR a p&&(false||CR (x::b) p));rw[V1,V0]
theorem H6(a b:List Int)(g:Int→Option Bool):jv a b g=if(jV a (kc g)&&jV b (kc g))=true then 3 else if(jV a (we g)&&jV b (we g))=true then 1 else 2:=by
 have key:∀ya na yb nb:Bool,(ya=true→na=true)→(yb=true→nb=true)→jvm (if ya=true then 3 else if na=true then 1 else 2) (if yb=true then 3 else if nb=true then 1 else 2)=if(ya&&yb)=true then 3 else if(na&&nb)=true then 1 else 2:=by decide
 have m:∀l,jV l (kc g)=true→jV l (we g)=true:= λl=>JL λi _ h=>by unfold kc we at*;rw[eq_of_beq h];rfl
 exact key _ _ _ _ (m a) (m b)
theorem jv3{a b:List Int}(ha:a≠[])(g:Int→Option Bool):decide (jv a b g=3)=gi a b (kc g):=by
 rw[H6,uy ha];cases jV a (kc g)&&jV b (kc g) with
 |true=>rfl
 |false=>
  cases jV a (we g)&&jV b (we g)<;>rfl
theorem ajs{s:St}(v1:ah (aA s.av)≠[]):ab9 s:= λl=>(jv3 v1 _).trans (bk (gi _ _) (funext λi=>by
 unfold kc pG;rw[FD];by_cases h:i∈l
 ·rw[aG h,aC (eN.mpr h)];rfl
 ·rw[aJ h,aH λm=>h (eN.mp m)];rfl))
theorem yf{β:Type}{j:Int}{b:β}{l:List (Int×β)}(nd:(l.map (·.1)).Nodup):(j,b)∈l↔l.lookup j=some b:=by
 induction l with
 |nil=>exact⟨λh=>(nomatch h),λh=>nomatch h⟩
 |cons p l ih=>
  obtain⟨i,c⟩:=p;obtain⟨n1,n2⟩:=Ui.mp nd;rw[Tj,SO];by_cases e:j=i
  ·subst e
   rw[show(j==(j,c).1)=true from beq_iff_eq.mpr rfl];refine⟨λh=> ?_,λh=> .inl (by cases h;rfl)⟩;rcases h with h|h
   ·cases h;rfl
   ·exact absurd (SW.mpr ⟨_,h,rfl⟩) n1
  ·rw[show(j==(i,c).1)=false from beq_eq_false_iff_ne.mpr e]
   exact⟨λh=>(ih n2).mp (h.resolve_left λq=>e (bk VX q)),λh=> .inr ((ih n2).mpr h)⟩
section
variable{s:St}
theorem oh{p q:Int→Bool}(h:∀i∈ah (cL s),p i=q i):gi (ah (aA s.av)) (ah (aA s.aI)) p=gi (ah (aA s.av)) (ah (aA s.aI)) q:=by
 have c:∀t:Int→Bool,(∀i,t i=true→cL s i=true)→CR (ah t) p=CR (ah t) q:= λt ht=>by unfold CR;rw[X7 λi hi=>h i (aL.mpr ⟨(aL.mp hi).1,ht i (aL.mp hi).2⟩)]
 unfold gi;rw[c (aA s.av) λi h=>by unfold cL;rw[h];rfl,c (aA s.aI) λi h=>by unfold cL;rw[h,UR]]
theorem s7{p:Int→Bool}{i:Int}(hi:i∈ah (cL s)):pG ((ah (cL s)).filter p) i=p i:=by
 unfold pG;cases c:p i with
 |true=>exact aC (Ux.mpr ⟨hi,c⟩)
 |false=>exact aH λm=>by rw[(Ux.mp m).2] at c;exact gg c.symm
theorem xE(nd:(s.bP.map (·.1)).Nodup)(b:Bool)(i:Int):tY s b i=(lk s.bP i==some b):=by
 unfold tY lk;cases c:(UB i s.bP==some b) with
 |true=>exact aC ((yf nd).mpr (eq_of_beq c))
 |false=>exact aH λm=>by rw[(yf nd).mp m,beq_self_eq_true] at c;exact gg c.symm
theorem M8(v1:ah (aA s.av)≠[])(nd:(s.bP.map (·.1)).Nodup):CC s=.bJ [.int (vi (bV s true)).length,.int (vi (bV s false)).length,.int (Hy s)]:=by
 have e1:avL s=ah (cL s):=Au (aA s.av) (aA s.aI);have e2:jv (ah (aA s.av)) (ah (aA s.aI)) (lk s.bP)=Hy s:=by
  have w:= λp=>uy (b:=ah (aA s.aI)) v1 p;rw[H6,←w,←w];unfold Hy iG;rw[oh (s:=s) (q:=kc (lk s.bP)) λi hi=>(s7 hi).trans (xE nd true i),oh (s:=s) (q:=we (lk s.bP)) λi hi=>(s7 hi).trans (by unfold AD;rw[s7 hi,xE nd false];rfl)]
 unfold CC bV;rw[e1,e2,Sy,Sy,X7 (p:=tY s true) λi _=>xE nd true i,X7 (p:=tY s false) λi _=>xE nd false i];rfl
theorem Qh(l:List Int)(i:Int):∀a,lk (l.foldl (tX s) a) i=if i∈l∧two s.av i=false then some (s.kn i).ac else lk a i:=by
 induction l with
 |nil=>exactλa=>(aJ λh=>nomatch h.1).symm
 |cons x l ih=>
  intro a;show lk (l.foldl (tX s) (tX s a x)) i=_;rw[ih];by_cases c:i∈l∧two s.av i=false
  ·rw[aG c,aG ⟨S0 _ c.1,c.2⟩]
  rw[aJ c];unfold tX;by_cases t:two s.av x=true
  ·rw[aG t,aJ λh=> ?_]
   rcases SO.mp h.1 with e|m
   ·rw[←e,h.2] at t;exact gg t
   ·exact c ⟨m,h.2⟩
  ·rw[aJ t,sS]
   by_cases e:i=x
   ·rw[aG e,aG ⟨e▸SI,e▸(XM _).mp t⟩,e]
   ·rw[aJ e,aJ λh=>c ⟨(SO.mp h.1).resolve_left e,h.2⟩]
theorem yX{i:Int}(h:cL s i=true):ao s i=true:=by unfold cL aA at h;unfold ao;rw[UA] at*;exact h.imp (λh=>by rw[of_decide_eq_true h];rfl) id
theorem adg(v1:ah (aA s.av)≠[])(t2:∀j,s.av j=2→s.aI j≠1):O4 s=iG s ((ah (cL s)).filter (acB s)):=by
 refine(jv3 v1 _).trans (oh λi hi=> ?_);have hv:=(aL.mp hi).2;have h2:two s.av i=false:=aH λe=>by unfold cL aA at hv;rw[UA] at hv;exact t2 i e (of_decide_eq_true (hv.resolve_left λq=>absurd (e.symm.trans (of_decide_eq_true q)) (by decide)))
 rw[s7 hi];unfold kc DQ acB;rw[Qh,aG ⟨aL.mpr ⟨(aL.mp hi).1,yX hv⟩,h2⟩];cases(s.kn i).ac<;>rfl
end
end
section
theorem NU{β:Type}(g:Int→β)(l:List Int)(i:Int):∀a,lk (l.foldl (λa x=>ji x (g x) a) a) i=if i∈l then some (g i) else lk a i:=by
 induction l with
 |nil=>exactλa=>(aJ λh=>nomatch h).symm
 |cons x l ih=>
  intro a;show lk (l.foldl (λa x=>ji x (g x) a) (ji x (g x) a)) i=_;rw[ih];by_cases c:i∈l
  ·rw[aG c,aG (S0 _ c)]
  rw[aJ c,sS];by_cases e:i=x
  ·rw[aG e,aG (e▸SI),e]
  ·rw[aJ e,aJ λh=>c ((SO.mp h).resolve_left e)]
theorem RH(p:Int→Bool)(x:Int)(l:List Int):(b8 x l).countP p=(x::l).countP p:=by
 induction l with
 |nil=>rfl
 |cons y l ih=>
  unfold b8;by_cases c:x≤y
  ·rw[aG c]
  ·rw[aJ c,Ws,ih,Ws,Ws,Ws,Vg]
theorem EB(p:Int→Bool)(l:List Int):(aB l).countP p=l.countP p:=by
 induction l with
 |nil=>rfl
 |cons x l ih=>
  show(b8 x (aB l)).countP p=_;rw[RH,Ws,Ws,ih]
theorem JA{S:List Int}(h:S.Pairwise (· ≤ ·)){k:Nat}(hk:k<S.length)(x:Int):x≤S[k]↔S.length-k≤S.countP λy=>decide (x≤y):=by
 have sp:∀n,S.countP (λy=>decide (x≤y))=(S.take n).countP (λy=>decide (x≤y))+(S.drop n).countP (λy=>decide (x≤y)):= λn=>by rw[←List.countP_append,Zc]
 have ord:∀i j (hi:i<S.length) (hj:j<S.length),i≤j→S[i]≤S[j]:= λi j hi hj hij=>by
  rcases ap2 hij with h1|rfl
  ·exact VN.mp h i j hi hj h1
  ·exact UK _
 constructor
 ·intro hx
  refine SG (Te ?_) (SG (Xa _ ((S.take k).countP λy=>decide (x≤y))) (Te (sp k).symm));refine(Vu.symm.trans (List.countP_eq_length.mpr λy hy=> ?_).symm);obtain⟨i,hi,rfl⟩:=X0.mp hy;rw[Vu] at hi;rw[ap8];exact aC (TX hx (ord k (k+i) hk (Nat.add_lt_of_lt_sub' hi) (SV _ _)))
 ·intro hc
  refine Yh λhx=> ?_;rw[sp (k+1),List.countP_eq_zero.mpr λy hy q=> ?_,Uq] at hc
  ·have:=SG hc List.countP_le_length
   rw[Vu] at this;exact absurd this (Wg.mpr (XR hk (T3 k)))
  obtain⟨i,hi,rfl⟩:=X0.mp hy;rw[YJ] at hi;rw[List.getElem_take] at q;exact hx (TX (of_decide_eq_true q) (ord i k _ hk (VB (SX hi (Nat.min_le_left _ _)))))
theorem ES(l:List Int):(aB l).length=l.length:=by
 have:=EB (λ_=>true) l
 rwa [List.countP_true] at this
theorem aek{n:Nat}(h:0<n):n-(n/2+1)<n:=Wk h (WT _)
theorem aas{n c:Nat}(h:0<n):n-(n-(n/2+1))≤c↔n<2*c:=by rw[Nat.sub_sub_self (ap6 h (by decide)),Nat.succ_le_iff,Nat.div_lt_iff_lt_mul (by decide),Nat.mul_comm]
theorem LA{l:List Int}(hl:l≠[])(f:Int→Int):∃h:l.length-(l.length/2+1)<(aB (l.map f)).length,vN l f=(aB (l.map f))[l.length-(l.length/2+1)]:=by
 have h:l.length-(l.length/2+1)<(aB (l.map f)).length:=by rw[ES,Sy];exact aek (Vy.mpr hl)
 refine⟨h,?_⟩;unfold vN;rw[aJ hl,U7,S6 h];rfl
theorem OE{l:List Int}{f:Int→Int}{x:Int}(hx:x≤sQ):x≤vN l f↔jV l (λi=>decide (x≤f i))=true:=by
 by_cases hl:l=[]
 ·subst hl;exact⟨λ_=>rfl,λ_=>hx⟩
 obtain⟨h,e⟩:=LA hl f;have hm:jV l (λi=>decide (x≤f i))=CR l λi=>decide (x≤f i):=by
  unfold jV;cases l with
  |nil=>exact absurd rfl hl
  |cons=>exact V0 _
 rw[e,JA (l6 _) h,EB,List.countP_map,ES,Sy,hm,aas (Vy.mpr hl)];unfold CR;rw[decide_eq_true_iff,←ZA];rfl
theorem HU{l:List Int}{f:Int→Int}(hl:l≠[]):∃i∈l,vN l f=f i:=by obtain⟨h,e⟩:=LA hl f;obtain⟨i,hi,q⟩:=SW.mp (eN.mp (Vf h));exact⟨i,hi,e.trans q.symm⟩
theorem acP(a b:List Int)(f:Int→Int):(JM a b f=vN a f∨JM a b f=vN b f)∧∀x,x≤JM a b f↔x≤vN a f∧x≤vN b f:=by
 unfold JM;by_cases c:vN a f<vN b f
 ·rw[aG c];exact⟨.inl rfl,λx=>⟨λh=>⟨h,TX h (UQ c)⟩,And.left⟩⟩
 ·rw[aJ c];exact⟨.inr rfl,λx=>⟨λh=>⟨TX h (U3.mp c),h⟩,And.right⟩⟩
theorem AF{l:List Int}{f g:Int→Int}(h:∀i∈l,f i=g i):vN l f=vN l g:=by unfold vN;rw[Tg h]
noncomputable def qW(f:Int→Int)(W:Int→Bool)(b j:Int):Int:=if b<f j then(if W (f j)=true then f j else b) else b
theorem KN(f:Int→Int)(W:Int→Bool)(b j:Int):b≤qW f W b j∧(W (f j)=true→f j≤qW f W b j)∧∀J,b≤J→(W (f j)=true→f j≤J)→qW f W b j≤J:=by
 unfold qW;by_cases c:b<f j
 ·rw[aG c]
  by_cases w:W (f j)=true
  ·rw[aG w];exact⟨UQ c,λ_=>UK _,λJ _ h=>h w⟩
  ·rw[aJ w];exact⟨UK _,λz=>absurd z w,λJ h _=>h⟩
 ·rw[aJ c];exact⟨UK _,λ_=>U3.mp c,λJ h _=>h⟩
theorem Km(f:Int→Int)(W:Int→Bool)(l:List Int):∀b,(b≤l.foldl (qW f W) b∧∀j∈l,W (f j)=true→f j≤l.foldl (qW f W) b)∧∀J,b≤J→(∀j∈l,W (f j)=true→f j≤J)→l.foldl (qW f W) b≤J:=by
 induction l with
 |nil=>exactλb=>⟨⟨UK _,λ_ h=>nomatch h⟩,λJ h _=>h⟩
 |cons x l ih=>
  intro b;obtain⟨s1,s2,s3⟩:=KN f W b x;obtain⟨⟨i1,i2⟩,i3⟩:=ih (qW f W b x);refine⟨⟨TX s1 i1,λj hj w=> ?_⟩,λJ h hJ=>i3 J (s3 J h (hJ x SI)) λj hj=>hJ j (S0 _ hj)⟩;rcases SO.mp hj with rfl|hj
  ·exact TX (s2 w) i1
  ·exact i2 j hj w
section
variable{s:St}
theorem adU(v1:ah (aA s.av)≠[])(hm:∀i∈ah (cL s),0≤(s.kn i).mt∧(s.kn i).mt<sQ):PD s=gW s:=by
 let f:Int→Int:= λi=>(s.kn i).mt;have adO:∀i∈ah (aA s.av),i∈ah (cL s):= λi hi=>aL.mpr ⟨(aL.mp hi).1,by unfold cL;rw[(aL.mp hi).2];rfl⟩;have agy:∀i∈ah (aA s.aI),i∈ah (cL s):= λi hi=>aL.mpr ⟨(aL.mp hi).1,by unfold cL;rw[(aL.mp hi).2,UR]⟩;have at_:∀i∈ah (cL s),CU (NY s) i=f i:= λi hi=>by unfold CU NY;rw[NU,aG (aL.mpr ⟨(aL.mp hi).1,yX (aL.mp hi).2⟩)];rfl
 have ej:PD s=JM (ah (aA s.av)) (ah (aA s.aI)) f:=by unfold PD JM;rw[AF λi hi=>at_ i (adO i hi),AF λi hi=>at_ i (agy i hi)]
 let W:Int→Bool:= λx=>gi (ah (aA s.av)) (ah (aA s.aI)) λi=>decide (x≤f i);have eb:gW s=(ah (cL s)).foldl (qW f W) 0:=by unfold gW;refine bk (λg=>(ah (cL s)).foldl g 0) (funext λb=>funext λj=> ?_);have hw:iG s (Ly s j)=W (f j):=oh λi hi=>s7 hi;unfold nX qW;rw[hw]
 obtain⟨o1,o2⟩:=acP (ah (aA s.av)) (ah (aA s.aI)) f;have lj:∀x,x≤sQ→(x≤JM (ah (aA s.av)) (ah (aA s.aI)) f↔W x=true):= λx hx=>by show _↔gi _ _ _=true;rw[o2,uy v1,Vr,OE hx,OE hx]
 obtain⟨i,hi,ei⟩:=HU (f:=f) v1;have big:vN (ah (aA s.av)) f<sQ:=ei▸(hm i (adO i hi)).2;have hJ:JM (ah (aA s.av)) (ah (aA s.aI)) f<sQ:=VV ((o2 _).mp (UK _)).1 big;have mem:∃j∈ah (cL s),JM (ah (aA s.av)) (ah (aA s.aI)) f=f j:=by
  rcases o1 with e|e
  ·exact⟨i,adO i hi,e.trans ei⟩
  ·by_cases hb:ah (aA s.aI)=[]
   ·rw[e,hb] at hJ
    exact absurd hJ (aqo sQ)
   ·obtain⟨j,hj,ej⟩:=HU (f:=f) hb
    exact⟨j,agy j hj,e.trans ej⟩
 obtain⟨j,hj,e⟩:=mem;have k:=hm j hj;obtain⟨⟨b1,b2⟩,b3⟩:=Km f W (ah (cL s)) 0;rw[ej,eb];refine aoQ ?_ (b3 _ (by rw[e];exact k.1) λx hx w=>(lj _ (UQ (hm x hx).2)).mpr w);rw[e];exact b2 j hj ((lj _ (UQ k.2)).mp (aqd e.symm))
theorem Jy(v1:ah (aA s.av)≠[])(t2:∀j,s.av j=2→s.aI j≠1)(nd:(s.bP.map (·.1)).Nodup)(hm:∀i∈ah (cL s),0≤(s.kn i).mt∧(s.kn i).mt<sQ):jT s:=⟨M8 v1 nd,adU v1 hm,adg v1 t2⟩
structure Ba(h st:List (Int×Int)):Prop where
 a:∀i t,lk h i=some t→(i,t)∈st
 b:∀i t,(i,t)∈st→∃t',lk h i=some t'∧t≤t'
theorem zj{β:Type}{i:Int}{l:List (Int×β)}:i∈l.map (·.1)↔ ∃b,lk l i=some b:=by
 unfold lk
 induction l with
 |nil=>exact⟨λh=>(nomatch h),λ⟨_,h⟩=>nomatch h⟩
 |cons p l ih=>
  rw[Tj,TV,SO];by_cases e:i=p.1
  ·rw[show(i==p.1)=true from beq_iff_eq.mpr e];exact⟨λ_=>⟨_,rfl⟩,λ_=> .inl e⟩
  ·rw[show(i==p.1)=false from beq_eq_false_iff_ne.mpr e];exact⟨λh=>ih.mp (h.resolve_left e),λh=> .inr (ih.mpr h)⟩
theorem N5(v1:ah (aA s.av)≠[])(H:Ba s.bN s.dU):De s=(!s.n6&&gi (ah (aA s.av)) (ah (aA s.aI)) (pG (1::qY s))):=by
 unfold De;rw[jv3 v1];refine bk (λp=> !s.n6&&gi (ah (aA s.av)) (ah (aA s.aI)) p) (funext λi=> ?_);unfold kc HQ yC pG;rw[sS,NU];by_cases e:i=1
 ·rw[aG e,aC (SO.mpr (.inl e))];rfl
 rw[aJ e];by_cases c:i∈aB (s.bN.map (·.1))
 ·rw[aG c]
  obtain⟨t,ht⟩:=zj.mp (eN.mp c);unfold tE;rw[ht];refine WX ((by decide:∀b:Bool,(some b==some true)=b) _) ?_;refine decide_eq_decide.mpr ⟨λh=>SO.mpr (.inr (SW.mpr ⟨(i,t),Ux.mpr ⟨H.a i t ht,aC h⟩,rfl⟩)),λh=> ?_⟩;obtain⟨⟨i',t'⟩,h1,h2⟩:=SW.mp ((SO.mp h).resolve_left e);obtain⟨h3,h4⟩:=Ux.mp h1;obtain⟨t'',q,le⟩:=H.b i' t' h3;have h2:i'=i:=h2;rw[h2,ht] at q;cases q;exact VV (Int.sub_le_sub_left le _) (of_decide_eq_true h4)
 ·rw[aJ c]
  refine(aH λh=>c ?_).symm;obtain⟨⟨i',t'⟩,h1,h2⟩:=SW.mp ((SO.mp h).resolve_left e);obtain⟨t'',q,_⟩:=H.b i' t' (Ux.mp h1).1;exact eN.mpr (zj.mpr ⟨t'',(show i'=i from h2)▸q⟩)
end
end
section
structure CI(av aI:Int→Int)(gV:Bool)(kn:Int→Kn)(c9:Int):Prop where
 Am:o4 av aI gV
 kn:∀j,(decide (0<av j)||decide (aI j=1))=true→0≤(kn j).mt∧(kn j).mt≤c9
 l9:9≤c9
structure RI(k N g:Nat)(bh:List (Int×Int))(A:Nat→List Int):Prop where
 aS:g≤N
 nn:N≤k
 ns:bh.length≤k
 ak:∀r,g≤r→r<N→A r=bO bh r
 NK:∀r,(A r).length≤k
 sl:∀p∈bh,p.1<(N:Int)
structure LI(k N bq:Nat)(bN dU:List (Int×Int))(dc:List (Nat×Int)):Prop where
 hd:Ba bN dU
 bo:∀b∈dc,b.1≤bq∧ -1≤b.2∧b.2<(N:Int)
 b0:0<k→dc≠[]
 nb:dc.length≤k
 nh:bN.length≤k
 nt:dU.length≤k
 cl:bq≤3*k
abbrev CIs(s:St):Prop:=CI s.av s.aI s.gV s.kn s.c9
abbrev RIs(k:Nat)(s:St):Prop:=RI k s.nn s.aS s.bh s.ak
abbrev LIs(k:Nat)(s:St):Prop:=LI k s.nn s.bq s.bN s.dU s.dc
structure cV(k:Nat)(s:St):Prop where
 c:CIs s
 r:RIs k s
 l:LIs k s
 nd:(s.bP.map (·.1)).Nodup
 nv:s.bP.length≤k
 la:s.c9≤9+2*(k:Int)
section
variable{k:Nat}{s:St}
theorem CI.v1(I:CIs s):ah (aA s.av)≠[]:=kZ.mp I.Am.v1
theorem cV.uo(I:cV k s)(hk:k≤100):jT s:=Jy I.c.v1 I.c.Am.two I.nd λi hi=>by have h:=I.c.kn i (yX (aL.mp hi).2);have:=I.la;refine⟨h.1,VV (TX h.2 this) ?_⟩;unfold sQ;omega
theorem cV.II(I:cV k s)(hk:k≤13):w9 s:=
 ⟨SG I.r.nn hk,I.r.aS,Sz I.r.ns (Sz hk (by decide)),I.r.ak,λr=>Sz (I.r.NK r) (Sz hk (by decide)),Sz I.l.nh (Sz hk (by decide)),Sz I.l.nt (Sz hk (by decide)),N5 I.c.v1 I.l.hd⟩
theorem RI.up(R:RIs k s):RIs (k+1) s:=⟨R.aS,Th R.nn,Th R.ns,R.ak,λr=>Th (R.NK r),R.sl⟩
theorem LI.up(L:LIs k s)(h0:0<k):LIs (k+1) s:=⟨L.hd,L.bo,λ_=>L.b0 h0,Th L.nb,Th L.nh,Th L.nt,SG L.cl (Wr 3 (TM k))⟩
theorem E0{a:Int}(h:a≤9+2*(k:Int)):a≤9+2*((k+1:Nat):Int):=by omega
theorem cV.up(I:cV k s)(h0:0<k):cV (k+1) s:=⟨I.c,I.r.up,I.l.up h0,I.nd,Th I.nv,E0 I.la⟩
theorem CI.pD{x:Int}{q:Kn}(I:CIs s)(h:0≤q.mt∧q.mt≤s.c9):CIs (oH s x q):=⟨I.Am,λj hj=>by
 show 0≤(if j=x then q else s.kn j).mt∧(if j=x then q else s.kn j).mt≤s.c9;by_cases e:j=x
 ·rw[aG e];exact h
 ·rw[aJ e];exact I.kn j hj,I.l9⟩
theorem CI.mt(I:CIs s){x:Int}(h:x∈ah (ao s)):0≤(s.kn x).mt∧(s.kn x).mt≤s.c9:=I.kn x (aL.mp h).2
theorem cV.pD{x:Int}{q:Kn}(I:cV k s)(h:0≤q.mt∧q.mt≤s.c9):cV k (oH s x q):=⟨I.c.pD h,I.r,I.l,I.nd,I.nv,I.la⟩
theorem cV.ajl(I:cV k s)(h0:0<k)(y:Int):cV (k+1) (H7 s y):=by
 have hy:=mY (y/40) 3 3 rfl (by decide);have h8:=mY (y/5) 8 8 rfl (by decide);have J:cV (k+1) (tT s y):=⟨⟨I.c.Am,λj hj=>⟨(I.c.kn j hj).1,TX (I.c.kn j hj).2 (aqp hy.1)⟩,TX I.c.l9 (aqp hy.1)⟩,I.r.up,I.l.up h0,I.nd,Th I.nv,by have:=I.la;show s.c9+y/40%3≤_;omega⟩
 unfold H7;by_cases hm:1+y%5∈ah (ao s)
 ·rw[aG hm]
  by_cases c:(s.kn (1+y%5)).mt<t9 s y
  ·rw[aG c]
   refine J.pD ⟨?_,?_⟩
   ·exact TX (I.c.mt hm).1 (UQ c)
   ·exact Int.sub_le_self _ h8.1
  ·rw[aJ c];exact J
 ·rw[aJ hm];exact J
theorem cV.aji(I:cV k s)(h0:0<k)(y:Int):cV (k+1) (IZ s y):=by
 have J:cV (k+1) (yU s y):=by
  have J:=I.up h0;unfold yU;by_cases c:y%9=8
  ·rw[aG c];exact⟨J.c,J.r,J.l,J.nd,J.nv,J.la⟩
  ·rw[aJ c];exact J
 unfold IZ;by_cases hm:1+y%5∈ah (ao s)
 ·rw[aG hm]
  have e:(yU s y).c9=s.c9:=by
   unfold yU;by_cases c:y%9=8
   ·rw[aG c]
   ·rw[aJ c]
  refine J.pD ?_;rw[e];by_cases d:y/5%2=0
  ·rw[aG d];exact I.c.mt hm
  ·rw[aJ d];exact I.c.mt hm
 ·rw[aJ hm];exact J
theorem cV.pH{b:Bool}(l:List Int):∀{s:St},cV k s→(∀x∈l,x∈ah (ao s))→cV k (l.foldl (pH b) s):=by
 induction l with
 |nil=>exactλI _=>I
 |cons x l ih=>
  intro s I h;show cV k (l.foldl (L.pH b) (L.pH b s x));unfold L.pH;by_cases c:b=true∧x≠1
  ·rw[aG c];exact ih (I.pD (I.c.mt (h x SI))) λy hy=>h y (S0 _ hy)
  ·rw[aJ c];exact ih I λy hy=>h y (S0 _ hy)
theorem cV.akG(I:cV k s)(h0:0<k)(y:Int):cV (k+1) (IT s y):=by have hy:=mY y 3 3 rfl (by decide);refine cV.pH _ (s:=o9 s (1+y%3).toNat) ⟨I.c,I.r.up,?_,I.nd,Th I.nv,E0 I.la⟩ λx h=>h;refine⟨I.l.hd,λb hb=>⟨SG (I.l.bo b hb).1 (SV _ _),(I.l.bo b hb).2⟩,λ_=>I.l.b0 h0,Th I.l.nb,Th I.l.nh,Th I.l.nt,?_⟩;have:=I.l.cl;show s.bq+(1+y%3).toNat≤3*(k+1);omega
theorem cV.bP(I:cV k s){v:List (Int×Bool)}(h1:(v.map (·.1)).Nodup)(h2:v.length≤k):cV k {s with bP:=v}:=
 ⟨I.c,I.r,I.l,h1,h2,I.la⟩
theorem cV.OR(I:cV k s)(h0:0<k)(y:Int):cV (k+1) (HM s y):=by
 have J:=I.up h0;unfold HM;by_cases c:y%11=10
 ·rw[aG c];exact J.bP Vl (Um _)
 rw[aJ c];cases e:lk s.bP (1+y%6) with
 |some b=>exact J
 |none=>
  refine J.bP ?_ (by rw[S4];exact TZ I.nv);rw[TA];refine We.mpr ⟨I.nd,Ui.mpr ⟨λh=>(nomatch h),Vl⟩,λa ha b hb q=> ?_⟩
  rw[Tp.mp hb] at q;obtain⟨v,hv⟩:=zj.mp (q▸ha);rw[e] at hv;exact nomatch hv
theorem zu{l:List (Int×Int)}{r aF:Int}:aF∈bO l r↔(r,aF)∈l:=by unfold bO;refine SW.trans ⟨λ⟨p,h,e⟩=> ?_,λh=>⟨_,Ux.mpr ⟨h,aC rfl⟩,rfl⟩⟩;obtain⟨h1,h2⟩:=Ux.mp h;rw[←of_decide_eq_true h2,←e];exact h1
theorem E2(r:Nat)(aF:Int)(r':Nat):bO (gJ s r aF) (r':Int)=if r'=r then j0 aF (bO s.bh r') else bO s.bh r':=by
 unfold gJ;by_cases e:r'=r
 ·rw[aG e,e]
  unfold j0;by_cases m:((r:Int),aF)∈s.bh
  ·rw[aG m,aG (zu.mpr m)]
  ·rw[aJ m,aJ λz=>m (zu.mp z)]
   unfold bO;rw[Zt,TA,T6,aG (aC rfl)];rfl
 ·rw[aJ e]
  by_cases m:((r:Int),aF)∈s.bh
  ·rw[aG m]
  ·rw[aJ m]
   unfold bO;rw[Zt,T6,aJ λz=>e (Ye (of_decide_eq_true z).symm)];exact bk _ (UU _)
theorem IK(r:Nat)(aF:Int):(gJ s r aF).length≤s.bh.length+1:=by
 unfold gJ;by_cases m:((r:Int),aF)∈s.bh
 ·rw[aG m];exact TM _
 ·rw[aJ m,S4];exact SQ _
theorem Ib{r:Nat}{aF:Int}{p:Int×Int}(h:p∈gJ s r aF):p∈s.bh∨p=((r:Int),aF):=by
 unfold gJ at h;by_cases m:((r:Int),aF)∈s.bh
 ·rw[aG m] at h;exact .inl h
 ·rw[aJ m] at h;exact(TQ.mp h).imp id Tp.mp
theorem R3(x:Int)(l:List Int):(j0 x l).length≤l.length+1:=by
 unfold j0;by_cases m:x∈l
 ·rw[aG m];exact TM _
 ·rw[aJ m,S4];exact SQ _
theorem RI.say(R:RIs k s){r:Nat}(hr:r<s.nn)(aF:Int)(hs:s.bh.length+1≤k)(ha:∀r,(s.ak r).length+1≤k){g:Nat}(hg:s.aS≤g∧g≤s.nn):RIs k {(j4 s (gJ s r aF) r aF) with aS:=g} where
 aS:=hg.2
 nn:=R.nn
 ns:=SG (IK r aF) hs
 ak i h1 h2:=by
  show(if i=r then j0 aF (s.ak r) else s.ak i)=bO (gJ s r aF) i;rw[E2];by_cases e:i=r
  ·rw[aG e,aG e,←e,R.ak i (SG hg.1 h1) h2]
  ·rw[aJ e,aJ e,R.ak i (SG hg.1 h1) h2]
 NK i:=by
  show(if i=r then j0 aF (s.ak r) else s.ak i).length≤k;by_cases e:i=r
  ·rw[aG e];exact SG (R3 _ _) (ha r)
  ·rw[aJ e];exact Zg (ha i)
 sl p hp:=(Ib hp).elim (R.sl p) λe=>by rw[e];exact TH.mpr hr
theorem RI.ae3(R:RIs k s){r:Nat}(hr:r<s.aS)(aF:Int)(hs:s.bh.length+1≤k):RIs k {s with bh:=gJ s r aF} where
 aS:=R.aS
 nn:=R.nn
 ns:=SG (IK r aF) hs
 ak i h1 h2:=by show s.ak i=bO (gJ s r aF) i;rw[E2,aJ λe:i=r=>TL.mpr h1 (e▸hr)];exact R.ak i h1 h2
 NK:=R.NK
 sl p hp:=(Ib hp).elim (R.sl p) λe=>by rw[e];exact TH.mpr (SX hr R.aS)
theorem cV.ack(I:cV k s){r:Nat}(hr:r<s.nn)(aF:Int)(hs:s.bh.length+1≤k)(ha:∀r,(s.ak r).length+1≤k):cV k (Bq s r aF):=by
 have go:∀g,s.aS≤g∧g≤s.nn→cV k {(j4 s (gJ s r aF) r aF) with aS:=g}:= λg hg=>
  ⟨I.c,I.r.say hr aF hs ha hg,I.l,I.nd,I.nv,I.la⟩
 unfold Bq;by_cases c:r<s.aS
 ·rw[aG c]
  exact⟨I.c,I.r.ae3 c aF hs,I.l,I.nd,I.nv,I.la⟩
 rw[aJ c];have c:=SS c;by_cases w:gi (ah (aA s.av)) (ah (aA s.aI)) (pG (aB (j0 aF (s.ak r))))=true
 ·rw[aG w];exact go (r+1) ⟨Th c,hr⟩
 ·rw[aJ w];exact go s.aS ⟨SQ _,I.r.aS⟩
theorem cV.N6(I:cV k s)(hk:k≤13){r:Nat}(hr:r<s.nn):yI s r:=
 ⟨SG I.r.nn hk,hr,Sz I.r.ns (Sz hk (by decide)),λh=>I.r.ak r h hr,ajs I.c.v1⟩
end
end
section
section
variable{k:Nat}{s:St}
theorem Ot(R:RIs k s):bO s.bh (s.nn:Int)=[]:=by refine Zz.mpr λw h=> ?_;exact absurd (R.sl _ (zu.mp h)) (aqo _)
theorem ahA{c:Nat}{N N':Nat}{b:Nat×Int}(h:b.1≤c∧ -1≤b.2∧b.2<(N:Int))(hN:N≤N'):b.1≤c∧ -1≤b.2∧b.2<(N':Int):=⟨h.1,h.2.1,V6 h.2.2 (UZ.mpr hN)⟩
theorem LI.nI(L:LIs k s){N:Nat}(hN:s.nn≤N){r:Int}(h: -1≤r∧r<(N:Int)):LI (k+1) N s.bq s.bN s.dU (s.dc++[(s.bq,r)]):=
 ⟨L.hd,λb hb=>(TQ.mp hb).elim (λm=>ahA (L.bo b m) hN) λm=>by rw[Tp.mp m];exact⟨SQ _,h.1,h.2⟩,λ_ e=>(nomatch (List.append_eq_nil_iff.mp e).2),by rw[S4];exact TZ L.nb,Th L.nh,Th L.nt,SG L.cl (Wr 3 (TM k))⟩
theorem cV.iM(I:cV k s)(y:Int):cV (k+1) (L.iM s s.nn y):=by
 refine⟨I.c,⟨Th I.r.aS,TZ I.r.nn,Th I.r.ns,λr h1 h2=> ?_,λr=> ?_,λp hp=>V6 (I.r.sl p hp) (UZ.mpr (TM _))⟩,I.l.nI (N:=s.nn+1) (TM _) ⟨?_,TH.mpr (T3 _)⟩,I.nd,Th I.nv,E0 I.la⟩
 ·show(if r=s.nn then[] else s.ak r)=bO s.bh r
  by_cases e:r=s.nn
  ·rw[aG e,e,Ot I.r]
  ·rw[aJ e];exact I.r.ak r h1 (Wl (VB h2) e)
 ·show(if r=s.nn then[] else s.ak r).length≤k+1
  by_cases e:r=s.nn
  ·rw[aG e];exact Um _
  ·rw[aJ e];exact Th (I.r.NK r)
 ·exact TX (by decide) (Tw _)
theorem R7(I:cV k s)(y:Int)(r:Nat):((L.iM s s.nn y).ak r).length+1≤k+1:=by
 show(if r=s.nn then[] else s.ak r).length+1≤k+1;by_cases e:r=s.nn
 ·rw[aG e];exact TZ (Um _)
 ·rw[aJ e];exact TZ (I.r.NK r)
theorem cV.read(I:cV k s)(y:Int):cV (k+1) (abD s y):=(I.iM y).ack (T3 s.nn) 1 (TZ I.r.ns) (R7 I y)
theorem cV.mD(I:cV k s){r:Int}(h: -1≤r∧r<(s.nn:Int)):cV (k+1) (L.mD s (s.bq,r)):=⟨I.c,I.r.up,I.l.nI (SQ _) h,I.nd,Th I.nv,E0 I.la⟩
theorem xD(h:s.aS<s.nn): -1≤((s.nn-1:Nat):Int)∧((s.nn-1:Nat):Int)<(s.nn:Int):=
 ⟨TX (by decide) (Tw _),TH.mpr (Wk (Sz (Um _) h) Nat.one_pos)⟩
theorem cV.ajT(I:cV k s)(y:Int):cV (k+1) (I5 s y):=by
 unfold I5;by_cases c:0<y%4∧s.aS<s.nn
 ·rw[aG c]
  exact(I.mD (xD c.2)).ack (TH.mp (xD c.2).2) 1 (TZ I.r.ns) λr=>TZ (I.r.NK r)
 ·rw[aJ c]
  exact I.mD ⟨UK _,V6 (by decide) (Tw _)⟩
theorem I6(j t:Int)(l:List (Int×Int)):E3 j t l=ji j t l:=by
 induction l with
 |nil=>rfl
 |cons p l ih=>show(if p.1=j then _ else p::E3 j t l)=if p.1=j then _ else p::ji j t l;rw[ih]
theorem Ba.akq(H:Ba s.bN s.dU)(aF:Int)(c:Nat):Ba (zz s aF c).bN (s.dU++[(aF,(c:Int))]):=by
 show Ba (if mU s aF<(c:Int) then E3 aF c s.bN else s.bN) _;by_cases h:mU s aF<(c:Int)
 ·rw[aG h,I6]
  refine⟨λi t e=> ?_,λi t m=> ?_⟩
  ·rw[sS] at e
   by_cases q:i=aF
   ·rw[aG q] at e;cases e;rw[q];exact Vm _ SI
   ·rw[aJ q] at e;exact Vn _ (H.a i t e)
  ·rw[sS]
   by_cases q:i=aF
   ·rw[aG q]
    refine⟨_,rfl,?_⟩;rcases TQ.mp m with m|m
    ·obtain⟨t',e,le⟩:=H.b i t m
     unfold mU at h;rw[←q,e] at h;exact TX le (UQ h)
    ·cases Tp.mp m;exact UK _
   ·rw[aJ q]
    rcases TQ.mp m with m|m
    ·exact H.b i t m
    ·cases Tp.mp m;exact absurd rfl q
 ·rw[aJ h]
  refine⟨λi t e=>Vn _ (H.a i t e),λi t m=> ?_⟩;rcases TQ.mp m with m|m
  ·exact H.b i t m
  ·cases Tp.mp m
   unfold mU at h;cases e:lk s.bN aF with
   |none=>rw[e] at h;exact absurd (V6 (by decide) (Tw c)) h
   |some t'=>rw[e] at h;exact⟨t',rfl,U3.mp h⟩
theorem PR(aF:Int)(c:Nat):(zz s aF c).bN.length≤s.bN.length+1:=by
 show(if mU s aF<(c:Int) then E3 aF c s.bN else s.bN).length≤_;by_cases h:mU s aF<(c:Int)
 ·rw[aG h,I6];exact pN ..
 ·rw[aJ h];exact TM _
theorem cV.uM(I:cV k s)(h0:0<k)(aF:Int)(c:Nat):cV (k+1) (L.uM s aF c):=
 ⟨I.c,I.r.up,⟨I.l.hd.akq aF c,I.l.bo,λ_=>I.l.b0 h0,Th I.l.nb,SG (PR aF c) (TZ I.l.nh),by show(s.dU++_).length≤k+1;rw[S4];exact TZ I.l.nt,SG I.l.cl (Wr 3 (TM k))⟩,I.nd,Th I.nv,E0 I.la⟩
theorem Bc(aF:Int)(c:Nat):(L.qS s aF c).bh=s.bh∧(L.qS s aF c).nn=s.nn∧(L.qS s aF c).ak=s.ak:=by
 unfold L.qS;by_cases h:aF∈ah (ao s)
 ·rw[aG h];exact⟨rfl,rfl,rfl⟩
 ·rw[aJ h];exact⟨rfl,rfl,rfl⟩
theorem cV.qS(I:cV k s)(h0:0<k)(aF:Int)(c:Nat):cV (k+1) (L.qS s aF c):=by
 have A:=I.uM h0 aF c;unfold L.qS;by_cases h:aF∈ah (ao s)
 ·rw[aG h];exact A.pD (I.c.mt h)
 ·rw[aJ h];exact A
theorem cV.pick(I:cV k s)(h0:0<k)(y:Int):(gw s y).1≤s.bq∧ -1≤(gw s y).2∧(gw s y).2<(s.nn:Int):=I.l.bo _ (OL (I.l.b0 h0) y)
theorem HN(I:cV k s)(h0:0<k){y:Int}(h:0≤(gw s y).2):(gw s y).2.toNat<s.nn:=TH.mp (Wm h▸(I.pick h0 y).2.2)
theorem cV.adI(I:cV k s)(h0:0<k)(y:Int):cV (k+1) (w4 s y):=by
 have B:=I.qS h0 (vO y) (gw s y).1;obtain⟨e1,e2,e3⟩:=Bc (s:=s) (vO y) (gw s y).1;unfold w4;by_cases c:(gw s y).2<0
 ·rw[aG c];exact B
 ·rw[aJ c]
  exact B.ack (by rw[e2];exact HN I h0 (U3.mp c)) _ (by rw[e1];exact TZ I.r.ns) λr=>by rw[e3];exact TZ (I.r.NK r)
theorem cV.ak4(I:cV k s):cV k (bz s):=⟨I.c,I.r,I.l,I.nd,I.nv,I.la⟩
theorem cV.change(I:cV k s)(y:Int):cV k (sJ s y):=by
 obtain⟨_,T'⟩:=I.c.Am.apply (PC y (qM s y)) (show 0≤nU s y by rcases Nk s y with h|h|h<;>rw[h]<;>decide)
 unfold sJ;cases e:aeg s y with
 |none=>exact I.ak4
 |some r=>
  refine⟨⟨T' r e,λj _=> ?_,I.c.l9⟩,I.r,I.l,I.nd,I.nv,I.la⟩;show 0≤(if ao s j=true then s.kn j else m8 s.c9).mt∧(if ao s j=true then s.kn j else m8 s.c9).mt≤s.c9;by_cases c:ao s j=true
  ·rw[aG c];exact I.c.kn j c
  ·rw[aJ c];exact⟨UK 0,TX (by decide:(0:Int)≤9) I.c.l9⟩
end
theorem aav(x j:Int):(dz x j=0∨dz x j=1∨dz x j=2)∧(dz x j≠0→1≤j∧j<6):=by
 have h:∀m:Int,([1,1,2,0]:List Int).getD m.toNat 0=0∨([1,1,2,0]:List Int).getD m.toNat 0=1∨([1,1,2,0]:List Int).getD m.toNat 0=2:= λm=>match m.toNat with
  |0=> .inr (.inl rfl)
  |1=> .inr (.inl rfl)
  |2=> .inr (.inr rfl)
  |_+3=> .inl (by rename_i k;cases k<;>rfl)
 have g:∀k:Nat,(([0,1,aV x 0,aV x 1,aV x 2,aV x 3]:List Int).getD k 0=0∨([0,1,aV x 0,aV x 1,aV x 2,aV x 3]:List Int).getD k 0=1∨([0,1,aV x 0,aV x 1,aV x 2,aV x 3]:List Int).getD k 0=2)∧(([0,1,aV x 0,aV x 1,aV x 2,aV x 3]:List Int).getD k 0≠0→1≤k∧k<6):= λk=>match k with
  |0=>⟨.inl rfl,λz=>absurd rfl z⟩
  |1=>⟨.inr (.inl rfl),λ_=>by decide⟩
  |2=>⟨h _,λ_=>by decide⟩
  |3=>⟨h _,λ_=>by decide⟩
  |4=>⟨h _,λ_=>by decide⟩
  |5=>⟨h _,λ_=>by decide⟩
  |k+6=>⟨.inl rfl,λz=>absurd rfl z⟩
 refine⟨(g j.toNat).1,λz=> ?_⟩;have q:=(g j.toNat).2 z;omega
theorem I2(x:Int):o4 (dz x) (λ_=>0) false:=by
 have c:=aav x;refine⟨λj=> ?_,λ_=> .inl rfl,λj=>(c j).2,λj h=>absurd rfl h,λj h=> ?_,λ_ _=>by decide,λ_=>rfl,?_⟩
 ·rcases(c j).1 with h|h|h<;>rw[h]<;>decide
 ·rcases(c j).1 with e|e|e<;>rw[h] at e<;>exact absurd e (by decide)
 ·exact S0 _ SI
theorem cV.s0(x:Int):cV 0 (L.s0 (dz x) (qK x)):=
 ⟨⟨I2 x,λ_ _=>⟨UK 0,(by decide:(0:Int)≤9)⟩,UK _⟩,⟨SQ _,SQ _,SQ _,λ_ _ _=>rfl,λ_=>SQ _,λ_ h=>(nomatch h)⟩,⟨⟨λ_ _ h=>(nomatch h),λ_ _ h=>(nomatch h)⟩,λ_ h=>(nomatch h),λh=>absurd h (V5 0),SQ _,SQ _,SQ _,SQ _⟩,Vl,SQ _,UK _⟩
theorem EP(x:Int):iP (dz x) (qK x)∧ah (bu (dz x))=[]:=by
 have T:=I2 x;have PW:∀j,ao (L.s0 (dz x) (qK x)) j=true→1≤j∧j<6:= λj h=>by have h:=(UA _ _).mp h;exact T.dom j (h.elim (λh=>Wq (of_decide_eq_true h)) λh=>absurd (show(0:Int)=1 from of_decide_eq_true h) (by decide))
 refine⟨⟨T.mb,funext λj=> ?_,T.ck⟩,?_⟩
 ·unfold vY
  cases c:ao (L.s0 (dz x) (qK x)) (j:Int) with
  |true=>
   have r:=PW _ c;rw[aC (aL.mpr ⟨⟨TX (by decide) r.1,r.2⟩,c⟩)];rfl
  |false=>rw[aH λm=>by rw[(aL.mp m).2] at c;exact gg c.symm];rfl
 ·refine Zz.mpr λj h=> ?_
  have e:dz x j=3:=of_decide_eq_true (aL.mp h).2;exact absurd (T.bu j e) (by decide)
end
section
theorem dM.to{n:Nat}{g:Fn}{y:Int}{s s':St}{P:St→Prop}(h:dM n g [.int y] s λx=>x=s')(hP:P s'):dM n g [.int y] s P:=
 h.bg (λv m ⟨e,x,f,q,B⟩=>⟨e,x,f,q▸hP,B⟩) λ_ z=>z
section
variable{n k:Nat}{s:St}
theorem DA(I:cV k s)(hk:k<13)(y:Int):dM (n+5) .gk [.int y] s (cV (k+1)):=
 .to (aaE n s y (Sz I.l.cl (Sz (Wr 3 (Tv hk)) (by decide))) (Sz I.l.nb (SM hk (by decide))) (Sz I.r.nn hk) I.r.aS ((I.iM y).N6 hk (T3 s.nn))) (I.read y)
theorem F4(I:cV k s)(hk:k≤13)(y:Int):dM (n+8) .cg [.int y] s (cV k):=
 .to (Ay n s y I.c.Am ((I.change y).uo (SG hk (by decide)))) (I.change y)
theorem m12:∀j:Nat,j<12→(j:Int)=0∨(j:Int)=1∨(j:Int)=2∨(j:Int)=3∨(j:Int)=4∨(j:Int)=5∨(j:Int)=6∨(j:Int)=7∨(j:Int)=8∨(j:Int)=9∨(j:Int)=10∨(j:Int)=11:=by decide
theorem ahD(x:Int):x%12=0∨x%12=1∨x%12=2∨x%12=3∨x%12=4∨x%12=5∨x%12=6∨x%12=7∨x%12=8∨x%12=9∨x%12=10∨x%12=11:=by obtain⟨j,e⟩:=WH (Yc x (b:=12) (by decide));rw[e];exact m12 j (TH.mp (e▸Yd x (by decide)))
theorem QS(I:cV k s)(h0:1≤k)(hk:k<13)(x:Int):dM (n+9) .dh [.int x] s (cV (k+1)):=by
 have k1:=Tv hk;have LZ:∀{a:Nat},a≤k→a<100:= λh=>Sz h (SM hk (by decide));have ck:s.bq<256:=Sz I.l.cl (Sz (Wr 3 k1) (by decide));have n13:=SG I.r.nn k1;have xF:dM (n+8) .cg [.int (x/12)] s (cV (k+1)):= .to (Ay n s _ I.c.Am ((I.change _).uo (SG k1 (by decide)))) ((I.change _).up h0);have rd:dM (n+8) .gk [.int (x/12)] s (cV (k+1)):=DA (n:=n+3) I hk _;have an:dM (n+8) .dG [.int (x/12)] s (cV (k+1)):= .to (K9 (n+3) s _ (I.l.b0 h0) (LZ I.l.nb) ck (LZ I.l.nh) (LZ I.l.nt) (I.pick h0 _).1 (I.pick h0 _).2 n13 λh=>(I.qS h0 _ _).N6 hk (by rw[(Bc _ _).2.1];exact HN I h0 h)) (I.adI h0 _);have tl:dM (n+8) .jU [.int (x/12)] s (cV (k+1)):= .to (RY (n+6) s _) (I.ajl h0 _);rcases ahD x with h|h|h|h|h|h|h|h|h|h|h|h
 ·by_cases c:s.xF<6
  ·exact agG _ s x _ h c xF
  ·exact agQ _ s x _ h c rd
 ·exact akE _ s x _ h rd
 ·exact akS _ s x _ h tl
 ·by_cases c:s.xF<6
  ·exact afH _ s x _ h c xF
  ·exact ahj _ s x _ h c an
 ·exact akA _ s x _ h (dM.to (QN (n+3) s _ ck (LZ I.l.nb) n13 λh=>(I.mD (xD h)).N6 hk (TH.mp (xD h).2)) (I.ajT _))
 ·by_cases c:x/12%3=0
  ·exact aid _ s x _ h c (dM.to (Rq (n+4) s _) (I.aji h0 _))
  ·exact agN _ s x _ h c an
 ·by_cases c:s.xF<6
  ·exact ahx _ s x _ h c xF
  ·exact agm _ s x _ h c an
 ·exact ajn _ s x _ h (dM.to (RX (n+6) s _ (LZ I.nv)) (I.OR h0 _))
 ·exact aj8 _ s x _ h tl
 ·by_cases c:s.xF<6
  ·exact ahB _ s x _ h c xF
  ·exact agO _ s x _ h c an
 ·exact aie _ s x _ h (dM.to (R5 (n+5) s _) (I.akG h0 _))
 ·exact agP _ s x _ h an
end
theorem Ry(n:Nat):L6 (n+9) cV where
 s0:=cV.s0
 read s y I:=DA (n:=n+4) I (by decide) y
 xF s y I:=F4 (n:=n+1) I (by decide) y
 C9 k s y h0 hk I:=QS (n:=n) I h0 hk y
 II k s I hk:=Mc (n+4) s (I.II hk)
 uo s I:=u6 (n+4) s (I.uo (by decide))
theorem B6(d9:List Nat)(N b:Nat){ms M:ai}{s:St}(hM:M.length=N)(hs:mem s=ms)(hl:ms.length=d9.length)(h:(Sw d9.length).all (λa=> !Nat.beq (bQ d9 N a) b|| !ms.live a)=true)(hb:b<N):QZ (bQ d9 N) s M b:=by subst hs;refine⟨hM▸hb,λa la e=> ?_⟩;have k:=S9.mp h a (UM.mpr (hl▸ai.ef la));rw[la,e,show SA b b=true from Vz _] at k;exact gg k
theorem My(n:Nat):DI (n+10):= λzs _=>by
 have H:=Ry n;have dr:∀(l:List Int) (a:Nat) (i:Int),0<l.length→l.length<100→∀M,b7 [(a,aj l)] M→aq (aE (n+9) .eH [.ref a,.int i] M) (.int (rB l i)) M:= λl a i h0 h1 M g=>LD (n+8) l i h0 h1 a M g;by_cases hz:fY zs=[]
 ·let x:=rB [0] 0
  obtain⟨S,h3⟩:=EP x;have L0:EV 69 3 [0] zs (cV 0) (t1B (.bare (vi zs)) (aj (zs.take 15)) (aj (fY zs)) (aj [0]) (dz x) (qK x)):=
   ⟨_,_,H.s0 x,Qe (.bare (vi zs)) (aj (zs.take 15)) (aj (fY zs)) (aj [0]) (dz x) (qK x),⟨by kernel_rfl,B6 mCB 77 0 (by kernel_rfl) rfl (by kernel_rfl) (by kernel_rfl) (by decide)⟩,by kernel_rfl,B6 mCB 77 3 (by kernel_rfl) rfl (by kernel_rfl) (by kernel_rfl) (by decide)⟩
  exact ah4 n zs x (rB [0] 1) (λv m=>v=.bool true∧EV 69 3 [0] zs (cV 1) m) _ hz (dr [0] 3 0 (by decide) (by decide)) (dr [0] 3 1 (by decide) (by decide)) S h3 (L0.C9 λs hs=>H.read s _ hs) λv m ⟨e,L1⟩=>by subst e;exact IY H (by decide) (by decide) _ _ _ _ _ _ _ L1 λm e=>⟨rfl,e⟩
 ·have h0:0<(fY zs).length:=Vy.mpr hz
  have h1:(fY zs).length<100:=by unfold fY;rw[Sy];exact Sz (aqn ..) (by decide)
  let x:=rB (fY zs) 0;obtain⟨S,h3⟩:=EP x;have L0:EV 68 2 (fY zs) zs (cV 0) (t1A (.bare (vi zs)) (aj (zs.take 15)) (aj (fY zs)) (dz x) (qK x)):=
   ⟨_,_,H.s0 x,Rx (.bare (vi zs)) (aj (zs.take 15)) (aj (fY zs)) (dz x) (qK x),⟨by kernel_rfl,B6 mCA 76 0 (by kernel_rfl) rfl (by kernel_rfl) (by kernel_rfl) (by decide)⟩,by kernel_rfl,B6 mCA 76 2 (by kernel_rfl) rfl (by kernel_rfl) (by kernel_rfl) (by decide)⟩
  exact agr n zs x (rB (fY zs) 1) (λv m=>v=.bool true∧EV 68 2 (fY zs) zs (cV 1) m) _ hz (dr (fY zs) 2 0 h0 h1) (dr (fY zs) 2 1 h0 h1) S h3 (L0.C9 λs hs=>H.read s _ hs) λv m ⟨e,L1⟩=>by subst e;exact IY H h0 h1 _ _ _ _ _ _ _ L1 λm e=>⟨rfl,e⟩
end
end cT.L
namespace cT.Top
open PySem PySem.W PyProof.Rows
theorem EK:importedModules pw.main.body=[]:=by kernel_rfl
theorem Ld(w:Tu):(T5 w.params).objs.size=11:=by kernel_rfl
theorem OQ(w:Tu):S8 (T5 w.params).objs.size (2^12)=true:=by kernel_rfl
theorem Sd(w:Tu):((T5 w.params).isNs TG&&(#[]:Array GenState).size==0)=true:=by kernel_rfl
theorem Nv:opening pw=plainProg pw.main.scope.names:=by kernel_rfl
theorem Oo(s:Sl):fenceModules? pw s=some s:=by kernel_rfl
theorem left:LeftO pw qw [] xt (λs=>says s.heap) (λ_=>True) 15770:= λw=>by
 obtain⟨⟨h,gs,d,k,os⟩,e,e'⟩:=X4.mp (boot_open (N:=15770) Nv (by decide) Oo w);obtain⟨rfl,rfl,rfl,rfl⟩:h=T5 w.params∧gs= #[]∧d=Wt∧k=Wu:=by simpa using e'
 obtain⟨sT,hs,h2⟩:=X4.mp (acC w os);have hb:bools w sT=true:=bk (·.2) h2;have h1:=abQ w os;have h3:=ad1 w os;have h4:=look_4 w os;have q5:=adw w os;have p1:=Qo w os;have p2:=QY w os;have p3:=Qa w os;have pe:=aeK w os;rw[hs] at q5 p1 p2 p3 pe h1 h3 h4;have h1:=SN h1;have h3:=SN h3;have h4:=SN h4;have q5:=SN q5;have po:=aeB (bk (·.1) (SN p1)) (SN p2) (SN p3) (bk (·.2) (SN p1));have abM:openSeen qw [] [] xt true sT.abs=openGood qw []:=by rw[Fast.te4187177175401517315];refine Vo (bk (·.1) h1) (Vo (bk (·.2) h1) (Vo (bk (·.1) h2) (Vo (bk (·.1) h3) (Vo (bk (·.2) h3) (Vo q5 (Vo (bk (·.1) h4) (Vo (bk (·.2.1) h4) (bk (·.2.2) h4))))))))
 have run:topRun Yj pw w (T5 w.params).objs.size ((T5 w.params).nsMap TG "__annotations__") 15770 ⟨T5 w.params,#[],Wt,Wu,os⟩ (topStub pw)=some sT.abs:=by rw[Ld,←Kl (OQ w)];unfold fin at hs;rw[←aeF] at hs;exact HW hs
 have t:topFrom Yj pw w 15770 ⟨T5 w.params,#[],Wt,Wu,os⟩=some sT.abs:=by
  unfold topFrom;dsimp only;rw[Sd w,run,EK];unfold bools at hb;show(match staticsOk [] (T5 w.params) sT.abs.heap&&namesBound pw sT.abs.heap&&gensDone sT.abs&&laidKept (T5 w.params) sT.abs.heap with|true=>_|false=>_)=_
  rw[hb]
 unfold openEnds;rw[e,XG,t,Xf,EK];exact bk some (Vo abM (eq_true ⟨_,OT sT,po,λf7=>SN (pe f7)⟩))
abbrev Gh:OpenLaw:=aqq
set_option maxHeartbeats 4000000 in
theorem bh:Gh.wellSaid=true:=by rw[Fast.te9446332074065402090];unfold Fast.tw9446332074065402090;simp only[Vr];and_intros<;>decide+kernel
theorem Dq:(defOf qw Gh.row.name).isSome=true:=by kernel_rfl
noncomputable def dk:DefRec×List (Sv×Su):=(defOf qw Gh.row.name).get Dq
theorem hdef:defOf qw Gh.row.name=some (dk.1,dk.2):=(Option.some_get Dq).symm
theorem hp:Gh.row.prog.theDef Gh.row.name=some (dk.1.params,dk.1.body,dk.1.scope):=by kernel_rfl
theorem hk:kwWritten? dk.1.params.kwonlyargs dk.1.params.kw_defaults=some dk.2:=by kernel_rfl
theorem ok2:(chainsOk qw&&opensWell Gh.row.prog&&(frees Gh.row.toRowW&&Gh.row.within.isEmpty))=true:=by kernel_rfl
theorem bare:Gh.row.prog.bare:=⟨rfl,rfl,rfl,rfl,rfl,by decide+kernel⟩
theorem promised:Gh.row.toRowW.promised:=by w_witness2
theorem head(call:WalkO qw [] (XL qw []) (λ_ h=>says h) Gh.row.toRowW dk.1 dk.2 λf vs=>PySem.call f vs):Gh.Holds:=
 holds_law bh λaht=>holds_open (r:=Gh.row) (q:=qw) (loose:=[]) (Xt:=xt) (XP:=XL qw []) (Yf:= λs=>says s.heap) (Ya:= λ_=>True) (YP:= λ_ h=>says h) (N:=15770)
  left (λ_ s e=>of_eq_true e) (λ_ h h' ⟨K,x,y⟩ k=>⟨K,x.keeps k,y⟩) (λs e=>xl_of s (Sn.mp e).1) XL.keeps hdef hp hk (λs e=>recFacts_of (Sn.mp e).2) rfl aht ok2 bare promised call
theorem ah9:SH "law"=Gh.row.name:=rfl
theorem KOk.facts{K:TU}(O:KOk K){p:VQ}{w:Tu}{ob:SK}:let P:PF:=⟨p,w,K,KD,caT,104,ob⟩;yx K=true∧(CF P∧GF P∧∀f:Fn,f.ok=true→FnF P f)∧XF P∧Ub K TG (SH "law")=some (some (.ref (KD Fn.law))):=by obtain⟨a1,h⟩:=Sn.mp O.o;obtain⟨a2,h⟩:=Sn.mp h;obtain⟨a3,h⟩:=Sn.mp h;obtain⟨a4,h⟩:=Sn.mp h;obtain⟨a5,h⟩:=Sn.mp h;obtain⟨a6,h⟩:=Sn.mp h;obtain⟨a7,h⟩:=Sn.mp h;obtain⟨a8,a9⟩:=Sn.mp h;have e:=O.e;have e1:K.lookup 104=some (mkX 104 (K.lookup 104)):=bk (·.1) (e []);have e2:(Sw A5).map (λf=>bodyOf (fdT K f))=(Sw A5).map IB:=(bk (·.2.1) (e [])).trans (mapR_eq _ _);have e3:∀f7,(Sw A5).map (λf=>Xc (fdT K f) ⟨gP f7 (prog f).nargs,[]⟩)=_:= λf7=>(bk (·.2.2) (e f7)).trans (mapR_eq _ _);have tr:=trees.trans (mapR_eq _ _);refine⟨a1,O6 a2 a3 a4 (Tg λf hf=> ?_) e3,⟨eq_of_beq a6,e1,a7,a8,eq_of_beq a9⟩,eq_of_beq a5⟩;show Bu (prog f).body (bodyOf (fdT K f))=bodyOf (fdT K f);rw[Xd.mp e2 f hf];exact Xd.mp tr f hf
section
set_option maxHeartbeats 4000000 in
theorem j2:aqq.Holds:=head (by
 intro w s₀ s₁ mg mb G Y fa o pm cd doc dV kV ho hd hcd hD hmg hg args aa as hpre hlay hrd hwl hlo;obtain⟨K,KX,KO⟩:=Y;have KF:= λob=>KO.facts (p:=pw) (w:=w) (ob:=ob);have TR:=topRead_of G.T;have NS:=G.T.seer (by decide+kernel);have hnm:dk.1.name=SH "law":=defOf_name hdef;rw[hnm] at hmg;clear hd hcd hD
 wrow_args hpre hlay hrd hwl hlo
 rename_i zs _ _ _ _ _ _ _ l0 xs _ hL _ _ _ hI _ h63 _;obtain⟨ob,h0,hcl,k,hdt⟩:=hL;have hfa:fa=KD .law:=by have h2:=mg_of (n:=SH "law") (v:= .ref (KD .law)) KX TR.g (KF ob).2.2.2;rw[hmg] at h2;cases h2;rfl
 subst hfa;refine enter_call ?_;refine Xx (cT.Rv (P:=⟨_,w,K,KD,caT,104,ob⟩) (k:=k) KX (KF ob).1 (KF ob).2.1 (KF ob).2.2.1 TR (let⟨mm,x,_⟩:=NS.mods;⟨mm,x⟩) h0 hcl hdt hI (by omega) (by omega) (cT.L.My 0)) λr s' ⟨h',tk,hr,hs,hk⟩=> ?_;subst hr hs;refine⟨.inl ⟨_,.bool true,[],rfl,raisesW_false ?_,.bool true,?_,unshared_nil⟩,.of_keep hk,rfl,.of_eq hg⟩
 ·wrow_none_raised
 ·exact postW_of (by o_shape) (by wtm_val) (by w_fin))
end
end cT.Top
theorem PySem.Challenge.cw_xw0276_01_holds : PySem.Challenge.rw_xw0276_01.Holds :=
 cT.Top.j2
