import PyProof.Rows.All
import OpenK.KLine
import Lean
import PySem.Challenge.RW_xw0078_01
set_option maxRecDepth 100000
set_option linter.all false
set_option genSizeOf false
set_option genSizeOfSpec false
set_option genInjectivity false
set_option genCtorIdx false
set_option compiler.extract_closed false
noncomputable section
open _root_.PySem renaming PyData->QI,Expr->QL,wpAny_bind->QM,Value->QS,Shared->QT,wpAny_pure->QV,Addr->Q5,Around->Rg,Heap->Rn,wpAny_holding->RA,wpAny_loadPart_at->RD,Scope->RE,wpAny_mono->RF,Program->RU,mainGlobals->R8,builtinLookup_eq_fast->R9,wpAny_call_entry->Se,wpAny_standAt->Sf,wpAny_newObj_type->Sg,ReadsAll->Sn,Stmt->So,World->Sz,checkBuiltinCall->SJ,wpAny_callSpecial?_slot->SR,Operator->SX,typeLookup->S6,wpAny_specialOf->Ta,typeLookup_type->Tc,wpAny_field->Tl,sysModules->To,wpAny_isSubtype_exc->Tu,DictEntry->TA,recursionLimit->TF,sizeLine->TG,builtinsNs->T1,call->T3,getItem->T4,plainObj_wpAny_Assign_Attribute->T8,ClassData->T9,Model->Ub,table->Ud,Comprehension->Us,wpAny_Call_ofName->Ux,wpAny_rule->Uz,rawInt->UA,Reads->UN,ExceptHandler->UQ,FuncData->UR,wpAny_execs_nil->UY,excClassObj->U5,bootBuiltins->Va,classAt->Vb,wpAny_sequenceKey->Vd,wpAny_truthy_bool->Vf,getMethod_builtin->Vg,wpAny_assign_Name->Vh,callEnvC->Vj,getitemInPython_of_ne->Vp,wpAny_execs_cons->Vw,leftWithCleanup_false_of_bare->VG,wpAny_letTemporaryGo->VH,sizeLine_eq->VI,wpAny_updateDictKeys->VJ,wpAny_loadPart'->VO,swapsWith->V1,BoolOp->V2,starEach->V6,arm_eval_Subscript->V7,binaryOp->V8,slot_dict_contains->V9,isSubtype_type->Wa,dictSetDefault->Wf,refuseLoop_ref->Wg,wpAny_setField->Wh,codeAny_call_builtin_code->Ws,wpAny_check_type_call_sub->Wt,CmpOp->Wz,wpAny_of_eq->WA,slot_dict_getitem->WB,setItem->WI,wpAny_getItem_list_slice->WJ,setAttr->WK,wpAny_comprehension_free->WL,outcomeOf->WO,wpAny_isInstance->WQ,noFill_tuple_add->WR,not_mem_of_findIdx_none->WS,entryFor->WU,wpAny_lookBehind->WY,NameKind->WZ,Result->W6,callerA->W8,concat_meets->Xa,call_meets->Xb,wpAny_typeOf->Xd,wpAny_call->Xg,wpAny_mroOf_exc->Xm,wpAny_notOrdered_dict->Xp,wpAny_storeName_local->Xr,wpAny_seqItems->Xw,wpAny_point->Xx,valueOrNone->Xz,keywordEach->XA,codeAny_call_builtin->XC,compEnvC->XD,lookup_relabel_local->XE,OsState->XR,spliced->XS,valueAt->XT,compareOp->XV,codeAny->XX,cellsFrom->XY,wpAny_isTrue_BoolOp->X0,wpAt_of_wpAny->X2,wpAny_raiseNew_none->X4,seq_tuple_add->Yb,getAttr->Yc,wpAny_Constant_int->Yi,intKind_is->Yk,arm_eval_Attribute->Yl,wpAny_keeperOf_exc->Yo,wpAny_pyIter_tuple->Yp,pyNext->Yq,assignEach->Yr,cameBackBy->Yu,wpAny_load->Yv,holding->YB,Keyword->YC,eqIsQuiet_byValue->YG,intKind->YH,bindArgs->YI,wpAny_dictFind_of->YK,slot_list_setitem->YL,slot_dict_setitem->YM,wpAny_dictEntries->YN,entry_list_append->YO,wpAny_Return_some->YQ,wpAny_Assign_Name->YR,fastTable_eq_tree->YU,beq_builtin_none->Y3,wpAny_forIn_list->Y4,wpAny_dictGet_of->Y5,backTo->Y6,stored->Y7,entryFor_of_tree->Za,slot_list_append->Zd,ret->Ze,args_list_append->Zf,lookupAlong_cons->Zh,wpAny_madeBy_exc->Zi,pastItsLine_dict->Zj,wpAny_For->Zm,leftWithCleanup->Zv,wpAny_ite_false->Zw,arm_eval_BoolOp->ZA,wpAny_updateSeq->ZB,Flow->ZE,wpAt_bind->ZF,codeAny_of_tree->ZG,letOwnedTupleGo->ZI,letTemporaryGo->ZS,callWith->ZY,fastBuiltinMro->ZZ,backToKw->Z0,GenState->Z1,entry_typeCall->Z3,newFunctionEnv->Z8,execs_cons->aaa,Fin->aaC
open _root_.PySem.Str renaming ofString->QJ,ofString_eq_toList->W9
open _root_.Option.some renaming inj->QK
open _root_.Nat renaming le_trans->QN,lt_of_le_of_lt->QO,succ_le_succ->QU,le_add_right->Ra,lt_of_succ_lt->Rh,add_le_add_right->Ri,add_le_add_left->Rj,le_refl->Rl,zero_le->Rr,lt_trans->Rt,le_of_succ_le_succ->Rv,le_of_succ_le->Ry,le_succ->RI,add_comm->RO,le_succ_of_le->RQ,le_of_eq->R4,mul_le_mul_left->Sa,le_add_left->Sd,blt->Si,zero_add->Sv,add_sub_cancel_left->Sx,lt_add_of_pos_right->Sy,lt_of_lt_of_le->SH,add_assoc->SO,ne_of_lt->SP,lt_succ_self->SU,sub_lt_iff_lt_add->Td,blt_eq->Tg,add_lt_add_left->Tv,succ_pos->Tw,le_max_right->TC,add_le_add->TH,le_max_left->TR,succ->TX,le_of_lt_succ->TZ,max_le->T5,add_right_comm->Un,beq->Uu,ble->Uv,not_succ_le_self->UB,succ_lt_succ->UI,succ_add_eq_add_succ->UU,succ_pred_eq_of_pos->U8,lt_succ_of_lt->Vk,eq_of_beq_eq_true->Vq,not_succ_le_zero->VK,le_antisymm->VQ,add_sub_cancel'->VW,le_of_lt->VY,lt_of_lt_of_eq->Wi,lt_of_le_of_ne->Wn,lt_of_succ_lt_succ->Xi,le_of_ble_eq_true->Xs,add_mul_div_right->Xu,sub_lt_sub_left->X6,add_left_cancel->X7,sub_add_cancel->Yw,sub_self->YX,lt_of_succ_le->YZ,lt_succ_of_le->Y1,min_le_right->Zb,div_eq_of_lt->Zn,succ_ne_zero->Zo,le_of_not_lt->Zp,le_succ_iff->ZJ,min_eq_left->ZK,min_le_left->ZL,ble_eq->aae,ne_of_gt->abE
open _root_.List renaming mem_singleton->QW,length_map->QX,mem_cons->QZ,length_append->Q2,replicate->Q4,all_eq_true->Rp,map_append->Rq,lookup_cons->Rx,getElem?_map->RJ,mem_append->RL,mem_append_right->RN,range->RP,pairwise_singleton->RV,map_congr_left->RX,append_assoc->Sh,getElem?_eq_some_iff->Sl,contains_iff_mem->Sp,mem_map->Su,length_range->Sw,nodup_nil->SA,forall_mem_cons->SG,append_nil->SI,mem_map_of_mem->SM,getElem?_eq_none->SN,nodup_append->S7,cons_ne_nil->Te,map_singleton->Th,nodup_cons->Tp,isEmpty_iff->Tz,getElem?_append_right->TM,length_replicate->TP,getElem?_eq_getElem->T7,map_map->Ui,idxOf_cons->Uq,map_cons->Ut,mem_of_getElem?->UC,mem_range->UD,length_cons->UH,getElem?_eq_none_iff->UL,range_succ->UZ,zip_cons_cons->U2,lookup_cons_self->Vr,cons_append->Vv,length_take->Vy,eq_nil_of_length_eq_zero->VL,idxOf_eq_length->VM,mem_append_left->VN,length_take_le->VT,getElem?_range->VV,drop_eq_getElem_cons->Wu,length_eq_zero_iff->WT,filter_cons_of_pos->W0,map->W3,getElem?_cons_succ->W4,getElem?_replicate->W5,find?_cons->Xl,mem_of_mem_take->Xy,idxOf_cons_self->XH,replicate_succ'->XK,cons->XU,filterMap_cons->X1,findIdx?_cons->Ys,lookup_append->Yt,zip_nil_left->YT,getElem?_set->YW,idxOf_append->YY,any_eq_true->Y8,drop_length->Zl,length->Zr,range'->Zu,forIn_cons->Zy,length_nil->Zz,of_mem_zip->ZH,drop_zero->Z7,any_cons->aao,lookup->acQ
open _root_.PySem.Heap renaming get?_push_of_some->QY,get?_none_of_le->Ru,get?_update_self->RR,get?_push_size->RS,SameBut->Sr,get?_update_other->Ul,lt_size->Vi,get?_push_at->WD,size_push->XB,get?_update_ne->X3,MadeObj->YV,MadeExcOf->Z2,ExtBut->acE
open _root_.Option renaming some_ne_none->Q1,eq_none_iff_forall_ne_some->Q9,ne_none_iff_exists'->Rw,isNone_iff_eq_none->Rz,map_eq_some_iff->RH,isSome_iff_exists->R6,map->U0,bind_eq_some_iff->W2,rec->aeB
open _root_.Exists renaming elim->Q7,imp->SY
open _root_.Bool renaming and_eq_true_iff->Q8,false_ne_true->SD,not_eq_true'->SZ,or_eq_true_iff->S9,not_inj->Um,decide_and->UW,eq_false_iff->WC,and_false->XG,noConfusion->Y2
open _root_.PySem.PyData renaming eqv->Rk,tuple->RC,int->RM,noConfusion->SQ,strOk->TU,depth->Ug,eqvAll->US,depthAll->UX,str->Yj,canLayAll0->YF
open _root_.List.cons renaming inj->RB
open _root_.Array renaming length_toList->RG,getElem?_eq_some_iff->TK,getElem?_toList->TO,toList_push->Uw,getElem?_setIfInBounds_self_of_lt->Uy,eq_empty_of_size_eq_zero->Vt,getElem?_eq_getElem->Wq,getElem?_eq_none->Xe,mem_toList_iff->XM,forIn_toList->Yh,size_push->ZC
open _root_.PySem.Value renaming ref->RT,none->Tq,builtin->VB,bool->adX
open _root_.PySem.Heap.SameBut renaming update->RW
open _root_.Classical renaming byContradiction->RY
open _root_.Int renaming ofNat_le->RZ,ofNat_lt->R5,natCast_nonneg->R7,le_of_lt_add_one->Sj,lt_of_le_of_lt->SE,fmod_eq_emod_of_nonneg->S8,not_lt->Tf,le_trans->Ti,fdiv_eq_ediv_of_nonneg->TN,toNat_natCast->TY,lt_trans->Uh,lt_or_eq_of_le->Uo,fmod_nonneg_of_pos->Up,natCast_pos->Ur,zero_add->UE,toNat_of_nonneg->VU,not_le->Wd,lt_of_lt_of_le->Wj,fmod_lt_of_pos->Wm,le_add_of_nonneg_left->Ww,le_of_add_le_add_left->Wy,le_refl->WE,add_le_add_right->XI,lt_add_one_of_le->XJ,ofNat->XZ,sub_zero->Y0,lt_irrefl->aaA,ne_of_gt->abd,le_of_lt->abf
open _root_.PySem.Builtin.Tuple renaming tupleHashOf->Sk,tupleItemsOf->V4
open _root_.PySem.Value.ref renaming inj->SV
open _root_.PySem.NameKind renaming free->SW,cell->aax
open _root_.PySem.Obj renaming data_mapDictKeys->Tj,data_mapFields->TJ,isFreed_of_dict->UM,isFreed_of_fields->Vs,mapSeq->Xc,mapFields->Yd,isFreed_of_seq->Ym,data_mapDict->Y9,data_mapSeq->Zx,cls_mapSeq->ZU
open _root_.PySem.Builtin.Str renaming occurrences->Tn
open _root_.Prod.mk renaming inj->Tx
open _root_.PySem.F renaming slot_tuple_iterator_next->TL,excBase_Exception->TQ,store_Exception->Ua,args_tuple_add_2->UT,entry_tuple_add->U6,slot_tuple_hash->Vc,slot_tuple_add->Ve,slot_dict_setdefault->VP,args_tuple_iterator_next_1->VR,entry_tuple_iterator_next->V0,slot_tuple_eq_refl->Wb,slot_list_index->WV,plainAttrs_list->WW,plainAttrs_dict->WX,slot_int_rmul->Xo,slot_dict_get->Xq,objNew->Z6
open _root_.ForInStep renaming yield->TT
open _root_.And renaming imp_right->T2,left->acs
open _root_.Int.ofNat renaming inj->T6
open _root_.PySem.Sem renaming wp_mono->Uc,wp_bind'->W7,wp_cmd_standAt->Yx,wp_holding->ZQ,wp_pure'->abO
open _root_.Int.le renaming dest->Ue
open _root_.PySem.Calls renaming spliced_cons->Uj,spliced_nil->U7
open _root_.PySem.Code renaming quiet_builtin->Uk,builtin->VZ
open _root_.Ne renaming symm->UG
open _root_.PySem.Expr.Attribute renaming elim->UJ
open _root_.PySem.Expr.Subscript renaming elim->UK
open _root_.PySem.Expr.Constant renaming elim->UO
open _root_.PySem.Expr.ListComp renaming elim->UP
open _root_.PySem.Expr.UnaryOp renaming elim->U3
open _root_.PySem.Expr.Compare renaming elim->U4
open _root_.PySem.Expr.BoolOp renaming elim->U9
open _root_.PySem.Expr.BinOp renaming elim->Vl
open _root_.PySem.Expr.IfExp renaming elim->Vm
open _root_.PySem.Expr.Tuple renaming elim->Vn
open _root_.PySem.Expr.Slice renaming elim->Vo
open _root_.PySem.Data renaming noConfusion->Vu
open _root_.Except renaming rec->Vz,ok->agh
open _root_.String renaming ofList->VA,toList_append->XO,ofList_toList->XQ
open _root_.PySem.Expr.Name renaming elim->VC
open _root_.PySem.Expr.List renaming elim->VD
open _root_.PySem.Expr.Dict renaming elim->VE
open _root_.PySem.Expr.Call renaming elim->VF
open _root_.PySem.Stmt.AugAssign renaming elim->VS
open _root_.PySem.ReadsAll renaming rec->VX
open _root_.PySem.Stmt.Continue renaming elim->V3
open _root_.PyProof.Rows renaming slot_tuple_getitem->V5,IntsAre->YE,depth_under_make->Zk,getItem_tuple->ZR,slicePart_none->ZX
open _root_.Eq renaming trans->Wl
open _root_.PySem.Builtin.Slice renaming slicePlaces->Wr,sliceApplied->ZW,sliceAdjust->aah
open _root_.PySem.Builtin.SmallTypes renaming nextOf->Wv
open _root_.PySem.ExcName renaming means->WG
open _root_.PySem.Builtin renaming bitOr->WH
open _root_.PySem.Stmt.Assign renaming elim->WM
open _root_.PySem.Stmt.Return renaming elim->WN
open _root_.Nat.succ renaming inj->Xf
open _root_.PySem.Around renaming under->Xh,under_plainId->XF
open _root_.PySem.Stmt.While renaming elim->Xj
open _root_.PySem.Stmt.Raise renaming elim->Xk
open _root_.PySem.Stmt.Expr renaming elim->Xv
open _root_.PySem.FuncBody renaming stmts->XN
open _root_.PySem.EntryCells renaming newEntry->X5
open _root_.PySem.Stmt.For renaming elim->X8
open _root_.PySem.Stmt.Try renaming elim->X9
open _root_.PySem.Heap.IsSliceOf renaming new->Yn
open _root_.PySem.Stmt.If renaming elim->YD
open _root_.PySem.Heap.DictOf renaming mapOf->YJ
open _root_.PySem.Heap.Ns1 renaming of_empty->YS
open _root_.PySem.Within renaming cons->Zt,nil->ael
open _root_.PySem.Comprehension renaming casesOn->ZM
open _root_.PySem.ExceptHandler renaming casesOn->ZN
open _root_.PySem.Builtin.List renaming listSubscript?->ZO,listFitsIndex->ZT,listTooLong->aan
open _root_.Prod renaming snd->Z5,ext->aab,fst->acG
open _root_.PySem.Shared renaming TypeIs->aaq
open _root_.PySem.Builtin.Range renaming rangeSize->aaU
open _root_.PySem.Flow renaming next->aaV
open _root_.PySem.IsRange renaming new->acO
open _root_.PUnit renaming unit->adU
open _root_.List.Pairwise renaming map->afh
namespace Mine.Internal
abbrev QP:=@if_neg
abbrev QQ:=@congrArg
abbrev QR:=@if_pos
abbrev Q0:=@of_decide_eq_true
abbrev Q3:=@beq_eq_false_iff_ne
abbrev Q6:=@beq_iff_eq
abbrev Rc:=@decide_eq_true
abbrev Rm:=@decide_eq_false
section
open _root_.PySem _root_.PySem.Calls PyProof.Rows
open scoped Classical
universe u
@[elab_as_elim] theorem aa {α:Sort u} {a b:α} {P:α->Prop} (h:a=b) (t:P b):P a:=h▸t
@[elab_as_elim] theorem a9 {α:Sort u} {a b:α} {P:α->Prop} (h:a=b) (t:P a):P b:=h▸t
section
variable{G:Prop}{α β γ δ ε ζ:Sort _}
theorem ao{p:α->β->Prop}(h:∃a b,p a b)(k:∀a b,p a b->G):G:=h.elim λa h=>h.elim λb h=>k a b h
theorem az{p:α->β->γ->Prop}(h:∃a b c,p a b c)(k:∀a b c,p a b c->G):G:=h.elim λa h=>ao h λb c h=>k a b c h
theorem jt{p:α->β->γ->δ->Prop}(h:∃a b c d,p a b c d)(k:∀a b c d,p a b c d->G):G:=h.elim λa h=>az h λb c d h=>k a b c d h
theorem cm{p:α->β->γ->δ->ε->Prop}(h:∃a b c d e,p a b c d e)(k:∀a b c d e,p a b c d e->G):G:=h.elim λa h=>jt h λb c d e h=>k a b c d e h
theorem QC{p:α->β->γ->δ->ε->ζ->Prop}(h:∃a b c d e f,p a b c d e f)(k:∀a b c d e f,p a b c d e f->G):G:=h.elim λa h=>cm h λb c d e f h=>k a b c d e f h
end
set_option genInjectivity true in
set_option genCtorIdx true in
inductive V where
 |d (x:QI)
 |r (a:Q5)
 |bb
set_option genInjectivity true in
set_option genCtorIdx true in
inductive Cell where
 |cH
 |lst (l:List V)
 |aj (t:Nat) (l:List (QI×V))
 |ins (c:String) (d:Q5)
 |aF (l:List (String×V))
 |bo (l:List (String×V))
 |bj (v:Option V)
 |raw (o:Obj)
abbrev Map:=Q5->Option Cell
noncomputable def Map.put(σ:Map)(a:Q5)(c:Cell):Map:=λb=>if b=a then some c else σ b
noncomputable def Map.join(σ φ:Map):Map:=λa=>match σ a with
 |some c=>some c
 |none=>φ a
abbrev aK:=List (String×V)
mutual
noncomputable def hO:QI->Bool
 |.none|.bool _|.int _=>true
 |.str x=>TU x
 |.tuple xs=>decide (xs.length<=1000)&&hK xs
 |.list _|.dict _=>false
noncomputable def hK:List QI->Bool
 |[]=>true
 |x::xs=>hO x&&hK xs
end
noncomputable def aP(d:QI):Bool:=hO d&&decide (Ug d<=30)
noncomputable def ah:Nat:=100000
theorem eM{d:QI}(h:aP d=true):hO d=true:=(Q8.mp h).1
theorem hW{d:QI}(h:aP d=true):Ug d<=30:=Q0 (Q8.mp h).2
theorem eK{xs:List QI}(ok:aP (.tuple xs)=true):xs.length<=1000/\hK xs=true:=(Q8.mp (eM ok)).imp_left Q0
def ak(h:Rn):V->QS->Prop
 |.d x,u=>aP x=true/\UN h u x []
 |.r a,u=>u=.ref a
 |.bb,u=>∃t,u=.bytes #[] t
inductive ai{α β:Type}(R:α->β->Prop):List α->List β->Prop
 |nil:ai R [] []
 |cons {a b as bs}:R a b->ai R as bs->ai R (a::as) (b::bs)
section
variable{α β:Type}{R S:α->β->Prop}{as as':List α}{bs bs':List β}
theorem ai.length(x:ai R as bs):as.length=bs.length:=x.rec rfl λ_ _ ih=>QQ TX ih
theorem ai.imp(f:∀a b,R a b->S a b)(x:ai R as bs):ai S as bs:=x.rec .nil λh _ ih=>.cons (f _ _ h) ih
theorem ai.append(x:ai R as bs)(y:ai R as' bs'):ai R (as++as') (bs++bs'):=x.rec y λh _ ih=>.cons h ih
theorem ai.get(x:ai R as bs):∀(i:Nat) a,as[i]?=some a->∃b,bs[i]?=some b/\R a b:=x.rec (λ_ _ e=>nomatch e) λ{_ b _ _} h _ ih i=>i.casesOn (λ_ e=>⟨b,rfl,QK e▸h⟩) ih
theorem ai.set(x:ai R as bs){a:α}{b:β}(r:R a b):∀i:Nat,ai R (as.set i a) (bs.set i b):=x.rec (λ_=>.nil) λh t ih i=>i.casesOn (.cons r t) λi=>.cons h (ih i)
theorem ai.drop(x:ai R as bs):∀i:Nat,ai R (as.drop i) (bs.drop i):=x.rec (λi=>i.casesOn .nil λ_=>.nil) λh t ih i=>i.casesOn (.cons h t) ih
theorem ai.take(x:ai R as bs):∀i:Nat,ai R (as.take i) (bs.take i):=x.rec (λi=>i.casesOn .nil λ_=>.nil) λh _ ih i=>i.casesOn .nil λi=>.cons h (ih i)
end
def d0(o:Obj):Prop:=o.cls=.type "tuple"->¬∃xs n,o.data=.seq xs n
theorem d0.of{o:Obj}{v:QS}(h:o.cls=v)(hn:v≠.type "tuple"):d0 o:=λe=>absurd (h.symm.trans e) hn
def ax(h h':Rn):Prop:=∀a o,h.get? a=some o->¬d0 o->∃sl,h'.get? a=some {o with slots:=sl}
theorem ax.refl h:ax h h:=λ_ o e _=>⟨o.slots,e⟩
theorem ax.trans{a b c:Rn}(x:ax a b)(y:ax b c):ax a c:=λi o e k=>(x i o e k).elim λsl e=>y i {o with slots:=sl} e k
theorem ax.of{h h':Rn}(k:∀a o,h.get? a=some o->h'.get? a=some o):ax h h':=λa o e _=>⟨o.slots,k a o e⟩
theorem eY{as bs:List Q5}(e:as++bs=[]):as=[]/\bs=[]:=List.append_eq_nil_iff.mp e
theorem pL{h h':Rn}(k:ax h h'){v:QS}{d:QI}{as:List Q5}(r:UN h v d as):as=[]->hO d=true->UN h' v d []:=
 Reads.rec (motive_2:=λvs ds as _=>as=[]->hK ds=true->Sn h' vs ds [])
  (λ_ _=>.none) (λb _ _=>.bool b) (λi t _ _=>.int i t) (λx t _ _=>.str x t) (λ_ _ _ _ _ e _=>absurd e (Te _ _))
  (λh1 h2 h3 _ ih e p=>(k _ _ h1 λc=>c h2 ⟨_,_,h3⟩).elim λ_ g=>.tuple g h2 h3 (ih e (Q8.mp p).2)) (λ_ _ _ _ _ _ _ e _=>absurd e (Te _ _))
  (λ_ _=>.nil) (λ_ _ i1 i2 e p=>.cons (i1 (eY e).1 (Q8.mp p).1) (i2 (eY e).2 (Q8.mp p).2)) r
theorem sg{h h':Rn}(k:ax h h'){vs:List QS}{ds:List QI}{as:List Q5}(r:Sn h vs ds as):as=[]->hK ds=true->Sn h' vs ds []:=
 VX (motive_1:=λ_ _ _ _=>True)
  trivial (λ_=>trivial) (λ_ _=>trivial) (λ_ _=>trivial) (λ_ _ _ _ _=>trivial) (λ_ _ _ _ _=>trivial) (λ_ _ _ _ _ _ _=>trivial)
  (λ_ _=>.nil) (λr _ _ i2 e p=>.cons (pL k r (eY e).1 (Q8.mp p).1) (i2 (eY e).2 (Q8.mp p).2)) r
theorem ak.mono{h h':Rn}(k:ax h h'){v:V}{u:QS}:ak h v u->ak h' v u:=v.rec (λ_ r=>⟨r.1,pL k r.2 rfl (eM r.1)⟩) (λ_ r=>r) (λr=>r)
theorem aG{α:Type}{M:Ub}{A:Rg}{s:QT}{E:QS->QT->Prop}{t:Sem α}{Q Q':α->QT->Prop}(h:wpAny M A t Q E s)(k:∀a s,Q a s->Q' a s):wpAny M A t Q' E s:=RF h k λ_ _ z=>z
theorem aX{α:Type}{a:α}{P:Prop}(h:none=some a):P:=nomatch h
end
section
open _root_.PySem _root_.PySem.Calls PyProof.Rows
open Sem (wp)
noncomputable def pR:List String:=["claim.caller","type.__call__","bytearray.__init__"]
noncomputable def qX:Code->Bool
 |.builtin id _=>pR.contains id
 |_=>true
def mH(l:List (Code×Pos)):Prop:=∀q∈l,qX q.1=true
def aU{α:Type}(M:Ub)(A:Rg)(t:Sem α)(Q:α->QT->Prop)(E:QS->QT->Prop)(s:QT):Prop:=∀Γ p,Γ.In A->qX Γ.code=true->mH Γ.below->wp M Γ t (λa _ s'=>Q a s') (λe _ s'=>E e s') p s
def fg(M:Ub)(A:Rg)(c:Code)(R:W6->QT->Prop)(s:QT):Prop:=∀Γ p,Γ.code=c->Γ.Below A->mH Γ.below->wpCode M Γ R p s
section
variable{α β:Type}{M:Ub}{A:Rg}{E:QS->QT->Prop}{s:QT}
theorem bM{t:Sem α}{Q:α->QT->Prop}(h:wpAny M A t Q E s):aU M A t Q E s:=λΓ p hΓ _ _=>h Γ p hΓ
theorem cB{t:Sem α}{Q Q':α->QT->Prop}{E':QS->QT->Prop}(h:aU M A t Q E s)(hQ:∀a s,Q a s->Q' a s)(hE:∀e s,E e s->E' e s):aU M A t Q' E' s:=λΓ p hΓ h1 h2=>Uc M Γ t (λa _ s=>hQ a s) (λe _ s=>hE e s) p s (h Γ p hΓ h1 h2)
theorem bH{m:Sem α}{f:α->Sem β}{Q:β->QT->Prop}(h:aU M A m (λa s'=>aU M A (f a) Q E s') E s):aU M A (m>>=f) Q E s:=λΓ p hΓ h1 h2=>by
 rewrite [W7];exact Uc M Γ m (λa p' s' h'=>h' Γ p' hΓ h1 h2) (λ_ _ _ h'=>h') p s (h Γ p hΓ h1 h2)
theorem fv{a:α}{Q:α->QT->Prop}(h:Q a s):aU M A (pure a) Q E s:=bM (QV h)
theorem EF{m:Sem α}{k:QS->Sem Unit}{Q:α->QT->Prop}(h:aU M A m Q (λe s'=>aU M A (k e) (λ_ s''=>E e s'') E s') s):aU M A (m.onRaise k) Q E s:=λΓ p hΓ h1 h2=>by
 rewrite [Sem.wp_onRaise];exact Uc M Γ m (λ_ _ _ h'=>h') (λe p' s' h'=>h' Γ p' hΓ h1 h2) p s (h Γ p hΓ h1 h2)
theorem kX{vs:List QS}{m:Sem α}{Q:α->QT->Prop}(h:aU M A m Q E s):aU M A (YB vs m) Q E s:=λΓ p hΓ h1 h2=>by rewrite [ZQ];exact h Γ p hΓ h1 h2
theorem mH.enter{Γ:Ctx}{p:Pos}(h1:qX Γ.code=true)(h2:mH Γ.below):mH ((Γ.code,p)::Γ.below):=λq hq=>by
 rcases QZ.mp hq with rfl|hq
 ·exact h1
 ·exact h2 q hq
theorem EE{c:Code}{Q:QS->QT->Prop}
  (hc:fg M A c (λr s'=>match r with|.ok (.ret v)=>Q v s'|.ok _=>False|.error e=>E e s') s):
  aU M A (runValue c) Q E s:=λΓ p hΓ h1 h2=>by rewrite [Sem.wp_runValue];exact hc _ p rfl (hΓ.enter c none p (by intro x;cases x)) (mH.enter h1 h2)
theorem rC{f:QS}{pos:List QS}{kw:List (Str×QS)}{Q:QS->QT->Prop}
  (hc:fg M A (.call f ⟨pos,kw⟩) (λr s'=>match r with|.ok (.ret v)=>Q v s'|.ok _=>False|.error e=>E e s') s):
  aU M A (call f pos kw) Q E s:=EE hc
theorem oA{c:Code}{R:W6->QT->Prop}(hcl:qX c=true)
  (h:aU M (A.under c) (M.den c) (λfin s'=>match fin with|.done f=>R (.ok f) s'|.again c'=>c'.quiet=true/\fg M A c' R s')
   (λe s'=>R (.error e) s') s):fg M A c R s:=λΓ p hc hΓ h1=>by
 (rewrite [wpCode_iff_wp];refine aa hc ?_)
 refine Uc M Γ _ (λfin p' s' h'=>?_) (λ_ _ _ h'=>h') p s (h Γ p (hc▸hΓ.in) (hc▸hcl) h1)
 cases fin with
 |done f=>exact h'
 |again c'=>exact ⟨h'.1,h'.2 (Γ.goto c') p' rfl (hΓ.goto c') h1⟩
theorem ED{f:Code×Pos->Bool}{Q:Bool->QT->Prop}(hf:∀c p,qX c=true->f (c,p)=false)(h:Q false s):aU M A (do return(←stack).any f) Q E s:=λΓ p _ h1 h2=>by
 refine (?_:Q (((Γ.code,p)::Γ.below).any f) s)
 have:((Γ.code,p)::Γ.below).any f=false:=by
  rewrite [List.any_eq_false];intro q hq;have:=hf q.1 q.2 (mH.enter h1 h2 q hq)
  simpa using this
 refine aa this ?_;exact h
end
end
section
open _root_.PySem
mutual
inductive E where
 |lit (d:QI)
 |lK
 |lv (x:String)
 |gv (x:String)
 |gk (x:String) (d:QI)
 |neg (e:E)
 |bin (op:SX) (a b:E)
 |cmp (op:Wz) (a b:E)
 |bor (es:Es)
 |band (es:Es)
 |nt (e:E)
 |fZ (t a b:E)
 |tup (es:Es)
 |lst (es:Es)
 |rep (e:E) (n:Nat)
 |aj (kvs:Es)
 |aF (e:E) (x:String)
 |iG (x f:String)
 |idx (e i:E)
 |lr (e lo:E)
 |ly (e hi:E)
 |call (f:String) (es:Es)
 |met (e:E) (m:String) (es:Es)
 |comp (x:String) (it elt:E)
 |gj (x:String) (it cond elt:E)
inductive Es where
 |nil
 |cons (e:E) (es:Es)
end
mutual
inductive S where
 |asg (x:String) (e:E)
 |fP (xs:List String) (e:E)
 |gp (o:E) (x:String) (e:E)
 |kD (o i e:E)
 |aug (x:String) (e:E)
 |ex (e:E)
 |ret (e:E)
 |g8
 |ifs (t:E) (a b:Ss)
 |iX (t:E) (a:Ss)
 |jr (xs:List String) (e:E) (a:Ss)
 |iC (x:String) (lo hi:E) (a:Ss)
 |f6 (x:String) (hi:E) (a:Ss)
 |js (x y:String) (e:E) (a:Ss)
 |raise (c:String) (e1 e2:E)
 |cont
 |i5 (a:Ss) (c x:String) (h:E)
inductive Ss where
 |nil
 |cons (s:S) (ss:Ss)
end
structure Fn where
 params:List String
 body:Ss
noncomputable def nm(x:String)(n:Str):Bool:=n==QJ x
noncomputable def nk(n:Str):Bool:=!(n==("__debug__":Str))&&!(n==("__classdict__":Str))
noncomputable def jl(sc:RE)(n:Str):Bool:=!(n==(".0":Str))&&match sc.names.lookup n with
 |some .local|some .cell|some .free=>true
 |_=>false
noncomputable def fY(sc:RE)(n:Str):Bool:=!(n==(".0":Str))&&match sc.names.lookup n with
 |some .local|some .cell=>true
 |_=>false
noncomputable def nS(sc:RE)(n:Str):Bool:=match sc.names.lookup n with
 |some .globalImplicit=>true
 |_=>false
theorem ff{P:Prop}(h:false=true):P:=Y2 h
theorem ae{a b:Bool}(h:(a&&b)=true):a=true/\b=true:=Q8.mp h
theorem cn{p:Prop}{_:Decidable p}{f:p->Bool}(h:(if h:p then f h else false)=true):∃t,f t=true:=if t:p then⟨t,(dif_pos t).symm.trans h⟩ else ff ((dif_neg t).symm.trans h)
noncomputable def tS(q:Const->Bool)(z:QL):Bool:=if h:z.ctorIdx=19 then UO z h (λc _ _=>q c) else false
@[elab_as_elim] theorem tS.inv {q:Const->Bool} {z:QL} {P:QL->Prop} (h:tS q z=true) (kk:∀c k p,q c=true->P (.Constant c k p)):P z:=
 (cn h).elim λt y=>UO (motive_1:=λz=>∀t,UO z t (λc _ _=>q c)=true->P z) z t (λc k p _=>kk c k p) t y
noncomputable def lX(q:Str->Bool)(z:QL):Bool:=if h:z.ctorIdx=23 then VC z h (λn _=>q n) else false
@[elab_as_elim] theorem lX.inv {q:Str->Bool} {z:QL} {P:QL->Prop} (h:lX q z=true) (kk:∀n p,q n=true->P (.Name n p)):P z:=
 (cn h).elim λt y=>VC (motive_1:=λz=>∀t,VC z t (λn _=>q n)=true->P z) z t (λn p _=>kk n p) t y
noncomputable def kg(q:UnaryOp->QL->Bool)(z:QL):Bool:=if h:z.ctorIdx=3 then U3 z h (λo x _=>q o x) else false
@[elab_as_elim] theorem kg.inv {q:UnaryOp->QL->Bool} {z:QL} {P:QL->Prop} (h:kg q z=true) (kk:∀o x p,q o x=true->P (.UnaryOp o x p)):P z:=
 (cn h).elim λt y=>U3 (motive_1:=λz=>∀t,U3 z t (λo x _=>q o x)=true->P z) z t (λo x p _=>kk o x p) t y
noncomputable def kj(q:QL->SX->QL->Bool)(z:QL):Bool:=if h:z.ctorIdx=2 then Vl z h (λl o r _=>q l o r) else false
@[elab_as_elim] theorem kj.inv {q:QL->SX->QL->Bool} {z:QL} {P:QL->Prop} (h:kj q z=true) (kk:∀l o r p,q l o r=true->P (.BinOp l o r p)):P z:=
 (cn h).elim λt y=>Vl (motive_1:=λz=>∀t,Vl z t (λl o r _=>q l o r)=true->P z) z t (λl o r p _=>kk l o r p) t y
noncomputable def nO(q:QL->(List Wz)->(List QL)->Bool)(z:QL):Bool:=if h:z.ctorIdx=15 then U4 z h (λl o r _=>q l o r) else false
@[elab_as_elim] theorem nO.inv {q:QL->(List Wz)->(List QL)->Bool} {z:QL} {P:QL->Prop} (h:nO q z=true) (kk:∀l o r p,q l o r=true->P (.Compare l o r p)):P z:=
 (cn h).elim λt y=>U4 (motive_1:=λz=>∀t,U4 z t (λl o r _=>q l o r)=true->P z) z t (λl o r p _=>kk l o r p) t y
noncomputable def ip(q:V2->(List QL)->Bool)(z:QL):Bool:=if h:z.ctorIdx=0 then U9 z h (λo l _=>q o l) else false
@[elab_as_elim] theorem ip.inv {q:V2->(List QL)->Bool} {z:QL} {P:QL->Prop} (h:ip q z=true) (kk:∀o l p,q o l=true->P (.BoolOp o l p)):P z:=
 (cn h).elim λt y=>U9 (motive_1:=λz=>∀t,U9 z t (λo l _=>q o l)=true->P z) z t (λo l p _=>kk o l p) t y
noncomputable def qz(q:QL->QL->QL->Bool)(z:QL):Bool:=if h:z.ctorIdx=5 then Vm z h (λt a b _=>q t a b) else false
@[elab_as_elim] theorem qz.inv {q:QL->QL->QL->Bool} {z:QL} {P:QL->Prop} (h:qz q z=true) (kk:∀t a b p,q t a b=true->P (.IfExp t a b p)):P z:=
 (cn h).elim λt y=>Vm (motive_1:=λz=>∀t,Vm z t (λt a b _=>q t a b)=true->P z) z t (λt a b p _=>kk t a b p) t y
noncomputable def lW(q:(List QL)->Bool)(z:QL):Bool:=if h:z.ctorIdx=25 then Vn z h (λl _ _=>q l) else false
@[elab_as_elim] theorem lW.inv {q:(List QL)->Bool} {z:QL} {P:QL->Prop} (h:lW q z=true) (kk:∀l k p,q l=true->P (.Tuple l k p)):P z:=
 (cn h).elim λt y=>Vn (motive_1:=λz=>∀t,Vn z t (λl _ _=>q l)=true->P z) z t (λl k p _=>kk l k p) t y
noncomputable def ki(q:(List QL)->Bool)(z:QL):Bool:=if h:z.ctorIdx=24 then VD z h (λl _=>q l) else false
@[elab_as_elim] theorem ki.inv {q:(List QL)->Bool} {z:QL} {P:QL->Prop} (h:ki q z=true) (kk:∀l p,q l=true->P (.List l p)):P z:=
 (cn h).elim λt y=>VD (motive_1:=λz=>∀t,VD z t (λl _=>q l)=true->P z) z t (λl p _=>kk l p) t y
noncomputable def nM(q:(List (Option QL))->(List QL)->Bool)(z:QL):Bool:=if h:z.ctorIdx=6 then VE z h (λk l _=>q k l) else false
@[elab_as_elim] theorem nM.inv {q:(List (Option QL))->(List QL)->Bool} {z:QL} {P:QL->Prop} (h:nM q z=true) (kk:∀k l p,q k l=true->P (.Dict k l p)):P z:=
 (cn h).elim λt y=>VE (motive_1:=λz=>∀t,VE z t (λk l _=>q k l)=true->P z) z t (λk l p _=>kk k l p) t y
noncomputable def eN(q:QL->Str->Pos->Bool)(z:QL):Bool:=if h:z.ctorIdx=20 then UJ z h (q) else false
@[elab_as_elim] theorem eN.inv {q:QL->Str->Pos->Bool} {z:QL} {P:QL->Prop} (h:eN q z=true) (kk:∀o a p,q o a p=true->P (.Attribute o a p)):P z:=
 (cn h).elim λt y=>UJ (motive_1:=λz=>∀t,UJ z t (q)=true->P z) z t (λo a p _=>kk o a p) t y
noncomputable def fK(q:QL->QL->Bool)(z:QL):Bool:=if h:z.ctorIdx=21 then UK z h (λo i _=>q o i) else false
@[elab_as_elim] theorem fK.inv {q:QL->QL->Bool} {z:QL} {P:QL->Prop} (h:fK q z=true) (kk:∀o i p,q o i=true->P (.Subscript o i p)):P z:=
 (cn h).elim λt y=>UK (motive_1:=λz=>∀t,UK z t (λo i _=>q o i)=true->P z) z t (λo i p _=>kk o i p) t y
noncomputable def kh(q:(Option QL)->(Option QL)->(Option QL)->Bool)(z:QL):Bool:=if h:z.ctorIdx=26 then Vo z h (λa b c _=>q a b c) else false
@[elab_as_elim] theorem kh.inv {q:(Option QL)->(Option QL)->(Option QL)->Bool} {z:QL} {P:QL->Prop} (h:kh q z=true) (kk:∀a b c p,q a b c=true->P (.Slice a b c p)):P z:=
 (cn h).elim λt y=>Vo (motive_1:=λz=>∀t,Vo z t (λa b c _=>q a b c)=true->P z) z t (λa b c p _=>kk a b c p) t y
noncomputable def dS(q:QL->(List QL)->(List YC)->Pos->Bool)(z:QL):Bool:=if h:z.ctorIdx=16 then VF z h (q) else false
@[elab_as_elim] theorem dS.inv {q:QL->(List QL)->(List YC)->Pos->Bool} {z:QL} {P:QL->Prop} (h:dS q z=true) (kk:∀f l k p,q f l k p=true->P (.Call f l k p)):P z:=
 (cn h).elim λt y=>VF (motive_1:=λz=>∀t,VF z t (q)=true->P z) z t (λf l k p _=>kk f l k p) t y
noncomputable def ik(q:QL->(List Us)->RE->Bool)(z:QL):Bool:=if h:z.ctorIdx=8 then UP z h (λe g s _=>q e g s) else false
@[elab_as_elim] theorem ik.inv {q:QL->(List Us)->RE->Bool} {z:QL} {P:QL->Prop} (h:ik q z=true) (kk:∀e g s p,q e g s=true->P (.ListComp e g s p)):P z:=
 (cn h).elim λt y=>UP (motive_1:=λz=>∀t,UP z t (λe g s _=>q e g s)=true->P z) z t (λe g s p _=>kk e g s p) t y
noncomputable def cY(q:(List QL)->QL->Bool)(z:So):Bool:=if h:z.ctorIdx=5 then WM z h (λl v _=>q l v) else false
@[elab_as_elim] theorem cY.inv {q:(List QL)->QL->Bool} {z:So} {P:So->Prop} (h:cY q z=true) (kk:∀l v p,q l v=true->P (.Assign l v p)):P z:=
 (cn h).elim λt y=>WM (motive_2:=λz=>∀t,WM z t (λl v _=>q l v)=true->P z) z t (λl v p _=>kk l v p) t y
noncomputable def pF(q:QL->SX->QL->Bool)(z:So):Bool:=if h:z.ctorIdx=7 then VS z h (λt o v _=>q t o v) else false
@[elab_as_elim] theorem pF.inv {q:QL->SX->QL->Bool} {z:So} {P:So->Prop} (h:pF q z=true) (kk:∀t o v p,q t o v=true->P (.AugAssign t o v p)):P z:=
 (cn h).elim λt y=>VS (motive_2:=λz=>∀t,VS z t (λt o v _=>q t o v)=true->P z) z t (λt o v p _=>kk t o v p) t y
noncomputable def pD(q:QL->Bool)(z:So):Bool:=if h:z.ctorIdx=24 then Xv z h (λv _=>q v) else false
@[elab_as_elim] theorem pD.inv {q:QL->Bool} {z:So} {P:So->Prop} (h:pD q z=true) (kk:∀v p,q v=true->P (.Expr v p)):P z:=
 (cn h).elim λt y=>Xv (motive_2:=λz=>∀t,Xv z t (λv _=>q v)=true->P z) z t (λv p _=>kk v p) t y
noncomputable def g7(q:(Option QL)->Bool)(z:So):Bool:=if h:z.ctorIdx=3 then WN z h (λv _=>q v) else false
@[elab_as_elim] theorem g7.inv {q:(Option QL)->Bool} {z:So} {P:So->Prop} (h:g7 q z=true) (kk:∀v p,q v=true->P (.Return v p)):P z:=
 (cn h).elim λt y=>WN (motive_2:=λz=>∀t,WN z t (λv _=>q v)=true->P z) z t (λv p _=>kk v p) t y
noncomputable def pC(q:QL->(List So)->(List So)->Bool)(z:So):Bool:=if h:z.ctorIdx=12 then YD z h (λt a b _=>q t a b) else false
@[elab_as_elim] theorem pC.inv {q:QL->(List So)->(List So)->Bool} {z:So} {P:So->Prop} (h:pC q z=true) (kk:∀t a b p,q t a b=true->P (.If t a b p)):P z:=
 (cn h).elim λt y=>YD (motive_2:=λz=>∀t,YD z t (λt a b _=>q t a b)=true->P z) z t (λt a b p _=>kk t a b p) t y
noncomputable def pz(q:QL->(List So)->(List So)->Bool)(z:So):Bool:=if h:z.ctorIdx=11 then Xj z h (λt a b _=>q t a b) else false
@[elab_as_elim] theorem pz.inv {q:QL->(List So)->(List So)->Bool} {z:So} {P:So->Prop} (h:pz q z=true) (kk:∀t a b p,q t a b=true->P (.While t a b p)):P z:=
 (cn h).elim λt y=>Xj (motive_2:=λz=>∀t,Xj z t (λt a b _=>q t a b)=true->P z) z t (λt a b p _=>kk t a b p) t y
noncomputable def eU(q:QL->QL->(List So)->(List So)->Bool)(z:So):Bool:=if h:z.ctorIdx=9 then X8 z h (λt i a b _=>q t i a b) else false
@[elab_as_elim] theorem eU.inv {q:QL->QL->(List So)->(List So)->Bool} {z:So} {P:So->Prop} (h:eU q z=true) (kk:∀t i a b p,q t i a b=true->P (.For t i a b p)):P z:=
 (cn h).elim λt y=>X8 (motive_2:=λz=>∀t,X8 z t (λt i a b _=>q t i a b)=true->P z) z t (λt i a b p _=>kk t i a b p) t y
noncomputable def pB(q:(Option QL)->(Option QL)->Bool)(z:So):Bool:=if h:z.ctorIdx=16 then Xk z h (λx c _=>q x c) else false
@[elab_as_elim] theorem pB.inv {q:(Option QL)->(Option QL)->Bool} {z:So} {P:So->Prop} (h:pB q z=true) (kk:∀x c p,q x c=true->P (.Raise x c p)):P z:=
 (cn h).elim λt y=>Xk (motive_2:=λz=>∀t,Xk z t (λx c _=>q x c)=true->P z) z t (λx c p _=>kk x c p) t y
noncomputable def pE(q:Bool)(z:So):Bool:=if h:z.ctorIdx=27 then V3 z h (λ_=>q) else false
@[elab_as_elim] theorem pE.inv {q:Bool} {z:So} {P:So->Prop} (h:pE q z=true) (kk:∀p,q=true->P (.Continue p)):P z:=
 (cn h).elim λt y=>V3 (motive_2:=λz=>∀t,V3 z t (λ_=>q)=true->P z) z t (λp _=>kk p) t y
noncomputable def pA(q:(List So)->(List UQ)->(List So)->(List So)->Bool)(z:So):Bool:=if h:z.ctorIdx=17 then X9 z h (λa h b c _=>q a h b c) else false
@[elab_as_elim] theorem pA.inv {q:(List So)->(List UQ)->(List So)->(List So)->Bool} {z:So} {P:So->Prop} (h:pA q z=true) (kk:∀a h b c p,q a h b c=true->P (.Try a h b c p)):P z:=
 (cn h).elim λt y=>X9 (motive_2:=λz=>∀t,X9 z t (λa h b c _=>q a h b c)=true->P z) z t (λa h b c p _=>kk a h b c p) t y
noncomputable def consts:List (String×Int):=[("TB_MODULE",0),("TB_TYPEREF",1),("TB_TYPEDEF",2),("TB_FIELD",4),("TB_METHODDEF",6),("TB_PARAM",8),("TB_MEMBERREF",10),("TB_EVENT",20),("TB_PROPERTY",23),("TB_TYPESPEC",27),("TB_ASSEMBLYREF",35),("TOKEN_BASE",16777216),
 ("E_VOID",1),("E_BOOLEAN",2),("E_CHAR",3),("E_I1",4),("E_U1",5),("E_I2",6),("E_U2",7),("E_I4",8),("E_U4",9),("E_I8",10),("E_U8",11),("E_STRING",14),("E_BYREF",16),("E_VALUETYPE",17),("E_CLASS",18),("E_VAR",19),("E_GENERICINST",21),("E_I",24),("E_OBJECT",28),("E_SZARRAY",29),("E_MVAR",30),("SIG_FIELD",6),
 ("VOID",0),("BOOL",1),("CHAR",2),("I1",3),("U1",4),("I2",5),("U2",6),("I4",7),("U4",8),("I8",9),("U8",10),("NINT",11),("OBJECT",12),("STRING",13),("NULLK",14),("PRIM_END",16),
 ("R_PRIM",1),("R_CLASS",2),("R_VALUE",3),("R_ARRAY",4),("R_BYREF",5),("R_VAR",6),("R_MVAR",7),("R_BOXED",8),("R_ROREF",9),("R_FTN",10),("R_RAW",11),("DEEPEST_KIND",24),("HEAVIEST_KIND",4096),("ARRAY_TID",5),("SG_TYPESPEC",0),("SG_FIELD",2),("S_STRUCT",2),("S_ENUM",5),("VA_NONE",0),
 ("CD_TYPEDEFORREF",0),("CD_HASCONSTANT",1),("CD_MEMBERREFPARENT",2),("CD_HASSEMANTICS",3),("CD_METHODDEFORREF",4),("CD_RESOLUTIONSCOPE",5),("CD_TYPEORMETHODDEF",6)]
noncomputable def jM:List String:=["access","asm","asm_refs","asms","base","blobs","bounds","cctor","code","depths","entry","events","fid","field_rows","fields","fields_","finaliser","flags","guids","home","ifaces","impls","index","kind","kt","locals_sigs","members","method_rows","method_specs","methods","name","names","opens","owner","params","props","rows","rvas","sort","specs","store","texts","tid","tids","tokens","ts","type_refs","type_rows","types","under","users","value","variances","weights"]
noncomputable def oY:List String:=["FieldDef","KindTable","Pages","PlainHeap","PlainTables","Store","TypeDef","_law_all_same","_law_asm","_law_def","_law_drawn","_law_fail","_law_field","_law_first","_law_kind","_law_of","_law_parent","_law_store","_law_told","_law_tree","_law_types","_law_use","_law_written","add_member","args_of","array_kind","asm_ref_row","bytearray","check_args","check_kind_row","check_named","check_use","chr","class_kind","enum_fields","enumerate","field_blob","field_row_of","field_token","floor_type","inner_kinds","is_plain","is_value","is_var","kind_coded","kind_sort","kind_token","len","make_coded","make_token","may_stand","named_tree","need_as_defined","need_asm","need_foremost","need_own_field","need_row","number_rows","prim_kind","range","row_length","row_level","row_name","sig_tree","split_token","str","tid_of","tuple","type_token","value_kind","var_kind"]
noncomputable def uL:List String:=["KindTable.row","KindTable.put","PlainHeap.put","PlainHeap.get","PlainTables.add","PlainTables.get","PlainTables.count","Pages.sig"]
noncomputable def yf(d:QI):Const:=d.casesOn .none .bool .int .str (λ_=>.none) (λ_=>.none) λ_=>.none
noncomputable def wa(d:QI):Bool:=d.casesOn true (λ_=>true) (λ_=>true) (λx=>aP (.str x)) (λ_=>false) (λ_=>false) λ_=>false
noncomputable def xD(x:String)(d:QI):Bool:=d.casesOn false (λ_=>false) (λi=>consts.lookup x==some i) (λ_=>false) (λ_=>false) (λ_=>false) λ_=>false
noncomputable def pO(z:QL):Bool:=!dS (λ_ l k _=>l.isEmpty&&k.isEmpty) z
noncomputable def iE{α:Type}(l:List α):Bool:=decide (l.length<=20)
noncomputable def mr(sc:RE)(x:Str)(inner:RE):Bool:=
 inner.kind==.function&&!inner.isCoroutine&&!inner.isGenerator&&inner.names.lookup (".0":Str)==some .local&&inner.names.lookup x==some .local&&
  !(x==(".0":Str))&&inner.names.all λ(n,k)=>match k with
   |.local=>n==(".0":Str)||n==x
   |.free=>sc.names.lookup n==some .cell
   |.globalImplicit=>true
   |_=>false
def QG(x:String)(it:QL)(ifs:List QL)(g:List Us):Prop:=∃np,g=[⟨.Name (QJ x) np,it,ifs,0⟩]
def uK(_:RE)(x:String)(z:QL):Prop:=(∃p,z=.Name (QJ x) p)/\nk (QJ x)=true
def jE(sc:RE)(x:String)(z:QL):Prop:=uK sc x z/\nS sc (QJ x)=true
theorem dG{a b c:Bool}(h:(a&&b&&c)=true):a=true/\b=true/\c=true:=⟨(ae (ae h).1).1,(ae (ae h).1).2,(ae h).2⟩
theorem cV{a b c d:Bool}(h:(a&&b&&c&&d)=true):a=true/\b=true/\c=true/\d=true:=⟨(dG (ae h).1).1,(dG (ae h).1).2.1,(dG (ae h).1).2.2,(ae h).2⟩
section
variable{α:Type}{q:α->Bool}{l:List α}
noncomputable def a8(q:α->Bool)(l:List α):Bool:=l.rec false λa r _=>r.isEmpty&&q a
noncomputable def iq(q:α->α->Bool)(l:List α):Bool:=l.rec false λa r _=>a8 (q a) r
noncomputable def cg(q:α->Bool)(o:Option α):Bool:=o.rec false q
theorem isNil.inv(h:l.isEmpty=true):l=[]:=Tz.mp h
@[elab_as_elim] theorem a8.inv {P:List α->Prop} (h:a8 q l=true) (k:∀a,q a=true->P [a]):P l:=
 l.rec (motive:=λl=>a8 q l=true->P l) (λh=>ff h) (λa r _ h=>isNil.inv (ae h).1▸k a (ae h).2) h
@[elab_as_elim] theorem iq.inv {q:α->α->Bool} {P:List α->Prop} (h:iq q l=true) (k:∀a b,q a b=true->P [a,b]):P l:=
 l.rec (motive:=λl=>iq q l=true->P l) (λh=>ff h) (λa _ _ h=>a8.inv (P:=λl=>P (a::l)) h (k a)) h
@[elab_as_elim] theorem cg.inv {o:Option α} {P:Option α->Prop} (h:cg q o=true) (k:∀a,q a=true->P (some a)):P o:=
 o.rec (motive:=λo=>cg q o=true->P o) (λh=>ff h) k h
theorem cS.inv{o:Option α}(h:o.isNone=true):o=none:=Rz.mp h
end
section
variable{sc:RE}{x:String}{z:QL}{P:QL->Prop}
noncomputable def gS(c:Const)(z:QL):Bool:=tS (· ==c) z
@[elab_as_elim] theorem gS.inv {c:Const} (h:gS c z=true) (k:∀i p,P (.Constant c i p)):P z:=tS.inv h λ_ i p e=>eq_of_beq e▸k i p
noncomputable def dO(x:String)(z:QL):Bool:=lX (λn=>nm x n&&nk n) z
theorem dO.inv(h:dO x z=true):uK sc x z:=lX.inv h λn p h=>(eq_of_beq (ae h).1:n=QJ x)▸⟨⟨p,rfl⟩,(eq_of_beq (ae h).1:n=QJ x)▸(ae h).2⟩
noncomputable def dg(sc:RE)(x:String)(z:QL):Bool:=dO x z&&nS sc (QJ x)
theorem dg.inv(h:dg sc x z=true):jE sc x z:=⟨dO.inv (ae h).1,(ae h).2⟩
noncomputable def iz(x:String)(q:QL->List QL->Bool)(g:List Us):Bool:=a8 (λg=>dO x g.target&&g.is_async==0&&q g.iter g.ifs) g
@[elab_as_elim] theorem iz.inv {q:QL->List QL->Bool} {g:List Us} {P:List Us->Prop} (h:iz x q g=true) (k:∀p it ifs,q it ifs=true->P [⟨.Name (QJ x) p,it,ifs,0⟩]):P g:=
 a8.inv h λg y=>have z:=dG y;ZM (motive_3:=λg=>dO x g.target=true->g.is_async=0->q g.iter g.ifs=true->P [g]) g (λt it ifs i a b c=>(dO.inv (z:=t) (sc:=default) a).1.elim λp e=>e▸(id b:i=0)▸k p it ifs c) z.1 (eq_of_beq z.2.1) z.2.2
end
abbrev MR:=Nat×(RE->QL->Bool)
abbrev MG:=RE->Nat->List (Option QL)->List QL->Bool
noncomputable def aB(r:MR)(sc:RE)(z:QL):Bool:=Uu z.ctorIdx r.1&&r.2 sc z
noncomputable def bx(e:E):MR:=@E.rec (λ_=>MR) (λ_=>MG)
 (λd=>(19,λ_ z=>gS (yf d) z&&wa d))
 (19,λ_ z=>gS (.bytes []) z)
 (λx=>(23,λsc z=>dO x z&&jl sc (QJ x)))
 (λx=>(23,λsc z=>dg sc x z))
 (λx d=>(23,λsc z=>dg sc x z&&xD x d))
 (λ_ e=>(3,λsc z=>kg (λo v=>o==.USub&&aB e sc v) z))
 (λop _ _ a b=>(2,λsc z=>kj (λl o r=>o==op&&aB a sc l&&aB b sc r) z))
 (λop _ _ a b=>(15,λsc z=>nO (λl o r=>a8 (· ==op) o&&a8 (λr=>aB a sc l&&aB b sc r) r) z))
 (λ_ es=>(0,λsc z=>ip (λo l=>o==.Or&&es sc 0 [] l) z))
 (λ_ es=>(0,λsc z=>ip (λo l=>o==.And&&es sc 0 [] l) z))
 (λ_ e=>(3,λsc z=>kg (λo v=>o==.Not&&aB e sc v) z))
 (λ_ _ _ t a b=>(5,λsc z=>qz (λt' a' b'=>aB t sc t'&&aB a sc a'&&aB b sc b') z))
 (λ_ es=>(25,λsc z=>lW (λl=>iE l&&es sc 0 [] l) z))
 (λ_ es=>(24,λsc z=>ki (λl=>iE l&&es sc 0 [] l) z))
 (λ_ n e=>(2,λsc z=>kj (λl o r=>ki (a8 λv=>o==.Mult&&decide (n<=1000)&&aB e sc v&&gS (.int n) r) l) z))
 (λ_ kvs=>(6,λsc z=>nM (λks vs=>decide (ks.length<=12)&&kvs sc 1 ks vs) z))
 (λ_ x e=>(20,λsc z=>eN (λo a _=>nm x a&&jM.contains x&&pO o&&aB e sc o) z))
 (λx f=>(20,λ_ z=>eN (λo a _=>nm f a&&dO x o) z))
 (λ_ _ e i=>(21,λsc z=>fK (λo k=>aB e sc o&&aB i sc k) z))
 (λ_ _ e i=>(21,λsc z=>fK (λo s=>kh (λa b c=>cg (λk=>b.isNone&&c.isNone&&aB e sc o&&aB i sc k) a) s) z))
 (λ_ _ e i=>(21,λsc z=>fK (λo s=>kh (λa b c=>cg (λk=>a.isNone&&c.isNone&&aB e sc o&&aB i sc k) b) s) z))
 (λf _ es=>(16,λsc z=>dS (λfn l k _=>k.isEmpty&&oY.contains f&&dg sc f fn&&(iE l&&es sc 0 [] l)) z))
 (λ_ m _ e es=>(16,λsc z=>dS (λfn l k p=>eN (λo a q=>k.isEmpty&&nm m a&&pO o&&(q.endLine==p.line&&iE l&&aB e sc o&&es sc 0 [] l)) fn) z))
 (λx _ _ it el=>(8,λsc z=>ik (λe g inner=>iz x (λit' ifs=>ifs.isEmpty&&mr sc (QJ x) inner&&aB it sc it'&&aB el inner e) g) z))
 (λx _ _ _ it c el=>(8,λsc z=>ik (λe g inner=>iz x (λit' ifs=>a8 (λc'=>mr sc (QJ x) inner&&aB it sc it'&&aB c inner c'&&aB el inner e) ifs) g) z))
 (λ_ m ks vs=>Uv m 1&&(ks.isEmpty&&vs.isEmpty))
 (λ_ _ e es sc m ks vs=>m.rec (vs.rec false λv vs _=>aB e sc v&&es sc 0 ks vs) λm _=>m.rec (ks.rec false λo ks _=>cg (λk=>aB e sc k&&es sc 2 ks vs) o) λ_ _=>vs.rec false λv vs _=>aB e sc v&&es sc 1 ks vs) e
noncomputable def wK(e:Es):MG:=@Es.rec (λ_=>MR) (λ_=>MG)
 (λd=>(19,λ_ z=>gS (yf d) z&&wa d))
 (19,λ_ z=>gS (.bytes []) z)
 (λx=>(23,λsc z=>dO x z&&jl sc (QJ x)))
 (λx=>(23,λsc z=>dg sc x z))
 (λx d=>(23,λsc z=>dg sc x z&&xD x d))
 (λ_ e=>(3,λsc z=>kg (λo v=>o==.USub&&aB e sc v) z))
 (λop _ _ a b=>(2,λsc z=>kj (λl o r=>o==op&&aB a sc l&&aB b sc r) z))
 (λop _ _ a b=>(15,λsc z=>nO (λl o r=>a8 (· ==op) o&&a8 (λr=>aB a sc l&&aB b sc r) r) z))
 (λ_ es=>(0,λsc z=>ip (λo l=>o==.Or&&es sc 0 [] l) z))
 (λ_ es=>(0,λsc z=>ip (λo l=>o==.And&&es sc 0 [] l) z))
 (λ_ e=>(3,λsc z=>kg (λo v=>o==.Not&&aB e sc v) z))
 (λ_ _ _ t a b=>(5,λsc z=>qz (λt' a' b'=>aB t sc t'&&aB a sc a'&&aB b sc b') z))
 (λ_ es=>(25,λsc z=>lW (λl=>iE l&&es sc 0 [] l) z))
 (λ_ es=>(24,λsc z=>ki (λl=>iE l&&es sc 0 [] l) z))
 (λ_ n e=>(2,λsc z=>kj (λl o r=>ki (a8 λv=>o==.Mult&&decide (n<=1000)&&aB e sc v&&gS (.int n) r) l) z))
 (λ_ kvs=>(6,λsc z=>nM (λks vs=>decide (ks.length<=12)&&kvs sc 1 ks vs) z))
 (λ_ x e=>(20,λsc z=>eN (λo a _=>nm x a&&jM.contains x&&pO o&&aB e sc o) z))
 (λx f=>(20,λ_ z=>eN (λo a _=>nm f a&&dO x o) z))
 (λ_ _ e i=>(21,λsc z=>fK (λo k=>aB e sc o&&aB i sc k) z))
 (λ_ _ e i=>(21,λsc z=>fK (λo s=>kh (λa b c=>cg (λk=>b.isNone&&c.isNone&&aB e sc o&&aB i sc k) a) s) z))
 (λ_ _ e i=>(21,λsc z=>fK (λo s=>kh (λa b c=>cg (λk=>a.isNone&&c.isNone&&aB e sc o&&aB i sc k) b) s) z))
 (λf _ es=>(16,λsc z=>dS (λfn l k _=>k.isEmpty&&oY.contains f&&dg sc f fn&&(iE l&&es sc 0 [] l)) z))
 (λ_ m _ e es=>(16,λsc z=>dS (λfn l k p=>eN (λo a q=>k.isEmpty&&nm m a&&pO o&&(q.endLine==p.line&&iE l&&aB e sc o&&es sc 0 [] l)) fn) z))
 (λx _ _ it el=>(8,λsc z=>ik (λe g inner=>iz x (λit' ifs=>ifs.isEmpty&&mr sc (QJ x) inner&&aB it sc it'&&aB el inner e) g) z))
 (λx _ _ _ it c el=>(8,λsc z=>ik (λe g inner=>iz x (λit' ifs=>a8 (λc'=>mr sc (QJ x) inner&&aB it sc it'&&aB c inner c'&&aB el inner e) ifs) g) z))
 (λ_ m ks vs=>Uv m 1&&(ks.isEmpty&&vs.isEmpty))
 (λ_ _ e es sc m ks vs=>m.rec (vs.rec false λv vs _=>aB e sc v&&es sc 0 ks vs) λm _=>m.rec (ks.rec false λo ks _=>cg (λk=>aB e sc k&&es sc 2 ks vs) o) λ_ _=>vs.rec false λv vs _=>aB e sc v&&es sc 1 ks vs) e
def bq(sc:RE)(e:E)(z:QL):Prop:=aB (bx e) sc z=true
def cK(sc:RE)(es:Es)(l:List QL):Prop:=wK es sc 0 [] l=true
def eO(sc:RE)(es:Es)(ks:List (Option QL))(vs:List QL):Prop:=wK es sc 1 ks vs=true
section
variable{sc:RE}{e e':E}{es:Es}{z:QL}
theorem bq.b(m:bq sc e z):(bx e).2 sc z=true:=(ae m).2
theorem cK.nil{l:List QL}(m:cK sc .nil l):l=[]:=isNil.inv m
theorem cK.mk{v:QL}{vs:List QL}(m:bq sc e v)(ms:cK sc es vs):cK sc (.cons e es) (v::vs):=Q8.mpr ⟨m,ms⟩
theorem cK.one{v:QL}(m:bq sc e v):cK sc (.cons e .nil) [v]:=.mk m rfl
@[elab_as_elim] theorem cK.cons {l:List QL} {P:List QL->Prop} (m:cK sc (.cons e es) l) (k:∀v vs,bq sc e v->cK sc es vs->P (v::vs)):P l:=
 l.rec (motive:=λl=>cK sc (.cons e es) l->P l) (λh=>ff h) (λv vs _ h=>k v vs (ae h).1 (ae h).2) m
theorem eO.nil{ks:List (Option QL)}{vs:List QL}(m:eO sc .nil ks vs):ks=[]/\vs=[]:=⟨isNil.inv (ae m).1,isNil.inv (ae m).2⟩
@[elab_as_elim] theorem eO.cons {ks:List (Option QL)} {vs:List QL} {P:List (Option QL)->List QL->Prop} (m:eO sc (.cons e (.cons e' es)) ks vs) (k:∀x ks v vs,bq sc e x->bq sc e' v->eO sc es ks vs->P (some x::ks) (v::vs)):P ks vs:=
 ks.rec (motive:=λks=>eO sc (.cons e (.cons e' es)) ks vs->P ks vs) (λh=>ff h) (λo ks _ h=>cg.inv (P:=λo=>P (o::ks) vs) (o:=o) h λx h=>
  vs.rec (motive:=λvs=>wK (.cons e' es) sc 2 ks vs=true->P (some x::ks) vs) (λh=>ff h) (λv vs _ y=>k x ks v vs (ae h).1 (ae y).1 (ae y).2) (ae h).2) m
theorem eO.ne{vs:List QL}(m:eO sc (.cons e es) [] vs){G:Prop}:G:=ff m
theorem eO.odd{ks:List (Option QL)}{vs:List QL}(m:eO sc (.cons e .nil) ks vs):False:=ks.rec (motive:=λks=>eO sc (.cons e .nil) ks vs->False) (λh=>ff h) (λo ks _ h=>cg.inv (P:=λ_=>False) (o:=o) h λx h=>ff (ae h).2) m
end
def gq(sc:RE)(x:String)(z:QL):Prop:=(∃p,z=.Name (QJ x) p)/\fY sc (QJ x)=true
noncomputable def cO(sc:RE)(x:String)(z:QL):Bool:=lX (nm x) z&&fY sc (QJ x)
section
variable{sc:RE}{x:String}{xs:List String}{z:QL}
theorem cO.inv(h:cO sc x z=true):gq sc x z:=⟨lX.inv (ae h).1 λn p e=>(eq_of_beq e:n=QJ x)▸⟨p,rfl⟩,(ae h).2⟩
noncomputable def zA(sc:RE)(xs:List String):List QL->Bool:=xs.rec (λl=>l.isEmpty) λx _ ih l=>l.rec false λv vs _=>cO sc x v&&ih vs
def iM(sc:RE)(xs:List String)(l:List QL):Prop:=zA sc xs l=true
theorem iM.nil{l:List QL}(m:iM sc [] l):l=[]:=isNil.inv m
@[elab_as_elim] theorem iM.cons {l:List QL} {P:List QL->Prop} (m:iM sc (x::xs) l) (k:∀v vs,gq sc x v->iM sc xs vs->P (v::vs)):P l:=
 l.rec (motive:=λl=>iM sc (x::xs) l->P l) (λh=>ff h) (λv vs _ h=>k v vs (cO.inv (ae h).1) (ae h).2) m
def jz(sc:RE)(xs:List String)(z:QL):Prop:=(∃x,xs=[x]/\gq sc x z)\/(∃l,(∃k p,z=.Tuple l k p)/\2<=xs.length/\iM sc xs l)
noncomputable def gH(sc:RE)(xs:List String)(z:QL):Bool:=a8 (λx=>cO sc x z) xs||lW (λl=>decide (2<=xs.length)&&zA sc xs l) z
theorem gH.inv(h:gH sc xs z=true):jz sc xs z:=(S9.mp h).imp (λh=>a8.inv (P:=λxs=>∃x,xs=[x]/\gq sc x z) h λx y=>⟨x,rfl,cO.inv y⟩) λh=>lW.inv (P:=λz=>∃l,(∃k p,z=.Tuple l k p)/\2<=xs.length/\iM sc xs l) h λl i p y=>⟨l,⟨i,p,rfl⟩,Q0 (ae y).1,(ae y).2⟩
noncomputable def kT:List Nat:=[0,4,0,0,4,0,0,2,1,2,2,4,4,4,4,0,0,4,4,0,0,0,2,0,0,5,2]
noncomputable def kV(z:QL):Nat:=kT.getD z.ctorIdx 0
noncomputable def kE(e:E):Nat:=kT.getD (bx e).1 0
noncomputable def pS(z:QL):Bool:=Uu (kV z) 2
noncomputable def hZ(z:QL):Bool:=!(Uu (kV z) 1||Uu (kV z) 2)
noncomputable def gG(sc:RE)(f:String)(q:List QL->Bool)(z:QL):Bool:=dS (λfn l k _=>k.isEmpty&&dg sc f fn&&q l) z
@[elab_as_elim] theorem gG.inv {f:String} {q:List QL->Bool} {P:QL->Prop} (h:gG sc f q z=true) (k:∀fn l p,jE sc f fn->q l=true->P (.Call fn l [] p)):P z:=
 dS.inv h λfn l kw p y=>isNil.inv (dG y).1▸k fn l p (dg.inv (dG y).2.1) (dG y).2.2
noncomputable def Ck(sc:RE)(c x:String)(q:QL->Bool)(e:UQ):Bool:=e.casesOn λt n b _=>cg (dg sc c) t&&cg (nm x) n&&a8 (g7 (cg q)) b&&sc.names.lookup (QJ x)==some .local
noncomputable def qG(sc:RE)(c x:String)(q:QL->Bool)(l:List UQ):Bool:=a8 (Ck sc c x q) l
@[elab_as_elim] theorem qG.inv {c:String} {q:QL->Bool} {l:List UQ} {P:List UQ->Prop} (h:qG sc c x q l=true)
  (k:∀t p rp hb,jE sc c t->sc.names.lookup (QJ x)=some .local->q hb=true->P [.ExceptHandler (some t) (some (QJ x)) [.Return (some hb) rp] p]):P l:=
 a8.inv h λa h=>ZN (motive_4:=λa=>Ck sc c x q a=true->P [a]) a (λt n b p h=>have w:=cV h
  cg.inv (P:=λt=>P [.ExceptHandler t n b p]) w.1 λt g=>cg.inv (P:=λn=>P [.ExceptHandler (some t) n b p]) w.2.1 λn e=>eq_of_beq e▸
   a8.inv (P:=λb=>P [.ExceptHandler (some t) (some n) b p]) w.2.2.1 λs h=>g7.inv (P:=λs=>P [.ExceptHandler (some t) (some n) [s] p]) h λv rp h=>
    cg.inv (P:=λv=>P [.ExceptHandler (some t) (some n) [.Return v rp] p]) h λhb h=>eq_of_beq e▸k t p rp hb (dg.inv g) (eq_of_beq w.2.2.2) h) h
end
noncomputable def J6(s:S):RE->So->Bool:=@S.rec (λ_=>RE->So->Bool) (λ_=>RE->List So->Bool)
 (λx e sc z=>cY (λl v=>a8 (cO sc x) l&&aB (bx e) sc v) z)
 (λxs e sc z=>cY (λl v=>a8 (gH sc xs) l&&hZ v&&aB (bx e) sc v) z)
 (λo x e sc z=>cY (λl v=>a8 (aB (bx (.aF o x)) sc) l&&hZ v&&aB (bx e) sc v) z)
 (λo i e sc z=>cY (λl v=>a8 (aB (bx (.idx o i)) sc) l&&hZ v&&aB (bx e) sc v) z)
 (λx e sc z=>pF (λt o v=>o==.Add&&cO sc x t&&aB (bx e) sc v) z)
 (λe sc z=>pD (λv=>hZ v&&aB (bx e) sc v) z)
 (λe sc z=>g7 (cg (aB (bx e) sc)) z)
 (λ_ z=>g7 (·.isNone) z)
 (λt _ _ a b sc z=>pC (λt' a' b'=>aB (bx t) sc t'&&a sc a'&&b sc b') z)
 (λt _ a sc z=>pz (λt' a' b=>b.isEmpty&&aB (bx t) sc t'&&a sc a') z)
 (λxs e _ a sc z=>eU (λt i a' b=>b.isEmpty&&gH sc xs t&&aB (bx e) sc i&&a sc a') z)
 (λx lo hi _ a sc z=>eU (λt i a' b=>b.isEmpty&&cO sc x t&&gG sc "range" (iq λl h=>aB (bx lo) sc l&&aB (bx hi) sc h) i&&a sc a') z)
 (λx hi _ a sc z=>eU (λt i a' b=>b.isEmpty&&cO sc x t&&gG sc "range" (a8 (aB (bx hi) sc)) i&&a sc a') z)
 (λx y e _ a sc z=>eU (λt i a' b=>b.isEmpty&&gH sc [x,y] t&&gG sc "enumerate" (a8 (aB (bx e) sc)) i&&a sc a') z)
 (λc e1 e2 sc z=>pB (λx k=>cg (λy=>dS (λfn l kw _=>k.isNone&&kw.isEmpty&&dg sc c fn&&iq (λl r=>aB (bx e1) sc l&&aB (bx e2) sc r) l) y) x) z)
 (λ_ z=>pE true z)
 (λ_ c x h a sc z=>pA (λa' hs b d=>b.isEmpty&&d.isEmpty&&(a sc a'&&qG sc c x (aB (bx h) sc) hs)) z)
 (λ_ l=>l.isEmpty)
 (λ_ _ s ss sc l=>l.rec false λt ts _=>s sc t&&ss sc ts) s
noncomputable def wJ(s:Ss):RE->List So->Bool:=@Ss.rec (λ_=>RE->So->Bool) (λ_=>RE->List So->Bool)
 (λx e sc z=>cY (λl v=>a8 (cO sc x) l&&aB (bx e) sc v) z)
 (λxs e sc z=>cY (λl v=>a8 (gH sc xs) l&&hZ v&&aB (bx e) sc v) z)
 (λo x e sc z=>cY (λl v=>a8 (aB (bx (.aF o x)) sc) l&&hZ v&&aB (bx e) sc v) z)
 (λo i e sc z=>cY (λl v=>a8 (aB (bx (.idx o i)) sc) l&&hZ v&&aB (bx e) sc v) z)
 (λx e sc z=>pF (λt o v=>o==.Add&&cO sc x t&&aB (bx e) sc v) z)
 (λe sc z=>pD (λv=>hZ v&&aB (bx e) sc v) z)
 (λe sc z=>g7 (cg (aB (bx e) sc)) z)
 (λ_ z=>g7 (·.isNone) z)
 (λt _ _ a b sc z=>pC (λt' a' b'=>aB (bx t) sc t'&&a sc a'&&b sc b') z)
 (λt _ a sc z=>pz (λt' a' b=>b.isEmpty&&aB (bx t) sc t'&&a sc a') z)
 (λxs e _ a sc z=>eU (λt i a' b=>b.isEmpty&&gH sc xs t&&aB (bx e) sc i&&a sc a') z)
 (λx lo hi _ a sc z=>eU (λt i a' b=>b.isEmpty&&cO sc x t&&gG sc "range" (iq λl h=>aB (bx lo) sc l&&aB (bx hi) sc h) i&&a sc a') z)
 (λx hi _ a sc z=>eU (λt i a' b=>b.isEmpty&&cO sc x t&&gG sc "range" (a8 (aB (bx hi) sc)) i&&a sc a') z)
 (λx y e _ a sc z=>eU (λt i a' b=>b.isEmpty&&gH sc [x,y] t&&gG sc "enumerate" (a8 (aB (bx e) sc)) i&&a sc a') z)
 (λc e1 e2 sc z=>pB (λx k=>cg (λy=>dS (λfn l kw _=>k.isNone&&kw.isEmpty&&dg sc c fn&&iq (λl r=>aB (bx e1) sc l&&aB (bx e2) sc r) l) y) x) z)
 (λ_ z=>pE true z)
 (λ_ c x h a sc z=>pA (λa' hs b d=>b.isEmpty&&d.isEmpty&&(a sc a'&&qG sc c x (aB (bx h) sc) hs)) z)
 (λ_ l=>l.isEmpty)
 (λ_ _ s ss sc l=>l.rec false λt ts _=>s sc t&&ss sc ts) s
def Ep(sc:RE)(s:S)(z:So):Prop:=J6 s sc z=true
def dI(sc:RE)(s:Ss)(l:List So):Prop:=wJ s sc l=true
section
variable{sc:RE}{s:S}{ss:Ss}{l:List So}
theorem dI.nil(m:dI sc .nil l):l=[]:=isNil.inv m
@[elab_as_elim] theorem dI.cons {P:List So->Prop} (m:dI sc (.cons s ss) l) (k:∀v vs,Ep sc s v->dI sc ss vs->P (v::vs)):P l:=
 l.rec (motive:=λl=>dI sc (.cons s ss) l->P l) (λh=>ff h) (λv vs _ h=>k v vs (ae h).1 (ae h).2) m
end
end
section
open _root_.PySem
open E renaming lv->v,idx->i,aF->t,cmp->c,call->f,bin->b,met->m,tup->u,bor->o,band->d,neg->n,lst->l,lr->g,ly->h,aj->e,nt->y
open S renaming ifs->q,ret->r,asg->a,ex->x,gp->s,kD->j,raise->z,jr->w
open Es renaming cons->A,nil->B
open Ss renaming cons->C,nil->D
noncomputable abbrev lI(i:Int):E:=.lit (.int i)
noncomputable abbrev lS(s:String):E:=.lit (.str (QJ s))
noncomputable abbrev gI(x:String)(i:Int):E:=.gk x (.int i)
section
noncomputable def yn:Fn:=⟨["self"],
 (C (s (v "self") "rows" (l B)) (C (s (v "self") "index" (e B)) (C (s (v "self") "depths" (l B)) (C (s (v "self") "weights" (l B)) (C (s (v "self") "opens" (l B)) (C (.f6 "number" (gI "PRIM_END" 16)
  (C (a "row" (u (A (gI "R_PRIM" 1) (A (v "number") B)))) (C (x (m (t (v "self") "rows") "append" (A (v "row") B))) (C (j (t (v "self") "index") (v "row") (v "number")) (C (x (m (t (v "self") "depths") "append" (A (lI 1) B))) (C (x (m (t (v "self") "weights") "append" (A (lI 1) B))) (C (x (m (t (v "self") "opens") "append" (A (lI 0) B))) D))))))) D))))))⟩
noncomputable def OW:Fn:=⟨["self","k"],
 (C (q (o (A (c .Lt (v "k") (lI 0)) (A (c .GtE (v "k") (f "len" (A (t (v "self") "rows") B))) B)))
  (C (z "BadKind" (lS "number") (v "k")) D)
  D) (C (r (i (t (v "self") "rows") (v "k"))) D))⟩
noncomputable def ym:Fn:=⟨["self","row"],
 (C (a "found" (m (t (v "self") "index") "get" (A (v "row") (A (n (lI 1)) B)))) (C (q (c .GtE (v "found") (lI 0))
  (C (r (v "found")) D)
  D) (C (x (f "check_kind_row" (A (v "self") (A (v "row") B)))) (C (a "depth" (lI 1)) (C (a "weight" (lI 1)) (C (a "opened" (lI 0)) (C (q (o (A (c .Eq (i (v "row") (lI 0)) (gI "R_VAR" 6)) (A (c .Eq (i (v "row") (lI 0)) (gI "R_MVAR" 7)) B)))
  (C (a "opened" (lI 1)) D)
  D) (C (a "level" (f "row_level" (A (i (v "row") (lI 0)) B))) (C (w ["inner"] (f "inner_kinds" (A (v "row") B))
  (C (q (c .Gt (b .Add (i (t (v "self") "depths") (v "inner")) (v "level")) (v "depth"))
  (C (a "depth" (b .Add (i (t (v "self") "depths") (v "inner")) (v "level"))) D)
  D) (C (.aug "weight" (i (t (v "self") "weights") (v "inner"))) (C (q (c .Eq (i (t (v "self") "opens") (v "inner")) (lI 1))
  (C (a "opened" (lI 1)) D)
  D) D)))) (C (q (c .Gt (v "depth") (gI "DEEPEST_KIND" 24))
  (C (z "BadKind" (lS "depth") (v "depth")) D)
  D) (C (q (c .Gt (v "weight") (gI "HEAVIEST_KIND" 4096))
  (C (z "BadKind" (lS "large") (v "weight")) D)
  D) (C (a "k" (f "len" (A (t (v "self") "rows") B))) (C (x (m (t (v "self") "rows") "append" (A (v "row") B))) (C (j (t (v "self") "index") (v "row") (v "k")) (C (x (m (t (v "self") "depths") "append" (A (v "depth") B))) (C (x (m (t (v "self") "weights") "append" (A (v "weight") B))) (C (x (m (t (v "self") "opens") "append" (A (v "opened") B))) (C (r (v "k")) D))))))))))))))))))⟩
noncomputable def Oz:Fn:=⟨["row"],
 (C (a "sort" (i (v "row") (lI 0))) (C (q (o (A (c .Eq (v "sort") (gI "R_CLASS" 2)) (A (c .Eq (v "sort") (gI "R_VALUE" 3)) B)))
  (C (r (i (v "row") (lI 2))) D)
  D) (C (q (o (A (c .Eq (v "sort") (gI "R_ARRAY" 4)) (A (c .Eq (v "sort") (gI "R_BYREF" 5)) (A (c .Eq (v "sort") (gI "R_BOXED" 8)) (A (c .Eq (v "sort") (gI "R_ROREF" 9)) (A (c .Eq (v "sort") (gI "R_RAW" 11)) B))))))
  (C (r (u (A (i (v "row") (lI 1)) B))) D)
  D) (C (q (c .Eq (v "sort") (gI "R_FTN" 10))
  (C (r (b .Add (u (A (i (v "row") (lI 1)) B)) (i (v "row") (lI 3)))) D)
  D) (C (r (u B)) D)))))⟩
noncomputable def Oe:Fn:=⟨["sort"],
 (C (q (o (A (c .Eq (v "sort") (gI "R_CLASS" 2)) (A (c .Eq (v "sort") (gI "R_VALUE" 3)) (A (c .Eq (v "sort") (gI "R_ARRAY" 4)) B))))
  (C (r (lI 1)) D)
  D) (C (r (lI 0)) D))⟩
noncomputable def Of:Fn:=⟨["sort"],
 (C (q (o (A (c .Eq (v "sort") (gI "R_CLASS" 2)) (A (c .Eq (v "sort") (gI "R_VALUE" 3)) B)))
  (C (r (lI 3)) D)
  D) (C (q (c .Eq (v "sort") (gI "R_FTN" 10))
  (C (r (lI 4)) D)
  D) (C (r (lI 2)) D)))⟩
noncomputable def OG:Fn:=⟨["kt","row"],
 (C (q (o (A (c .Eq (f "len" (A (v "row") B)) (lI 0)) (A (c .LtE (i (v "row") (lI 0)) (gI "R_PRIM" 1)) (A (c .Gt (i (v "row") (lI 0)) (gI "R_RAW" 11)) B))))
  (C (z "BadKind" (lS "sort") (lI 0)) D)
  D) (C (a "sort" (i (v "row") (lI 0))) (C (q (c .NotEq (f "len" (A (v "row") B)) (f "row_length" (A (v "sort") B)))
  (C (z "BadKind" (lS "length") (v "sort")) D)
  D) (C (w ["inner"] (f "inner_kinds" (A (v "row") B))
  (C (x (m (v "kt") "row" (A (v "inner") B))) D)) (C (q (o (A (c .Eq (v "sort") (gI "R_CLASS" 2)) (A (c .Eq (v "sort") (gI "R_VALUE" 3)) B)))
  (C (x (f "check_named" (A (v "kt") (A (v "row") B)))) D)
  (C (q (o (A (c .Eq (v "sort") (gI "R_VAR" 6)) (A (c .Eq (v "sort") (gI "R_MVAR" 7)) B)))
  (C (q (c .Lt (i (v "row") (lI 1)) (lI 0))
   (C (z "BadKind" (lS "place") (i (v "row") (lI 1))) D)
   D) D)
  (C (q (c .Eq (v "sort") (gI "R_FTN" 10))
   (C (q (o (A (y (f "may_stand" (A (v "kt") (A (i (v "row") (lI 1)) B)))) (A (c .Lt (i (v "row") (lI 2)) (lI 0)) B)))
   (C (z "BadKind" (lS "method") (i (v "row") (lI 2))) D)
   D) (C (x (f "check_args" (A (v "kt") (A (i (v "row") (lI 3)) B)))) D))
   (C (q (c .Eq (v "sort") (gI "R_BOXED" 8))
   (C (q (y (o (A (f "is_value" (A (v "kt") (A (i (v "row") (lI 1)) B))) (A (f "is_var" (A (v "kt") (A (i (v "row") (lI 1)) B))) B))))
    (C (z "BadKind" (lS "boxed") (i (v "row") (lI 1))) D)
    D) D)
   (C (q (y (f "may_stand" (A (v "kt") (A (i (v "row") (lI 1)) B))))
    (C (z "BadKind" (lS "inner") (i (v "row") (lI 1))) D)
    D) D)) D)) D)) D)) D)))))⟩
noncomputable def OF:Fn:=⟨["kt","row"],
 (C (q (o (A (c .LtE (i (v "row") (lI 1)) (lI 0)) (A (c .In (i (v "row") (lI 1)) (.gv "TID_PRIM")) B)))
  (C (z "BadKind" (lS "named") (i (v "row") (lI 1))) D)
  D) (C (x (f "check_args" (A (v "kt") (A (i (v "row") (lI 2)) B)))) D))⟩
noncomputable def OH:Fn:=⟨["kt","args"],
 (C (w ["arg"] (v "args")
  (C (q (y (f "may_stand" (A (v "kt") (A (v "arg") B))))
  (C (z "BadKind" (lS "argument") (v "arg")) D)
  D) D)) D)⟩
noncomputable def Oo:Fn:=⟨["kt","k"],
 (C (q (o (A (c .Eq (v "k") (gI "VOID" 0)) (A (c .Eq (v "k") (gI "NULLK" 14)) B)))
  (C (r (.lit (.bool false))) D)
  D) (C (a "sort" (i (m (v "kt") "row" (A (v "k") B)) (lI 0))) (C (r (o (A (c .LtE (v "sort") (gI "R_ARRAY" 4)) (A (c .Eq (v "sort") (gI "R_VAR" 6)) (A (c .Eq (v "sort") (gI "R_MVAR" 7)) B))))) D)))⟩
noncomputable def OD:Fn:=⟨["kt","tid","args"],
 (C (q (c .In (v "tid") (.gv "TID_PRIM"))
  (C (r (f "prim_kind" (A (v "tid") (A (v "args") B)))) D)
  D) (C (r (m (v "kt") "put" (A (u (A (gI "R_CLASS" 2) (A (v "tid") (A (v "args") B)))) B))) D))⟩
noncomputable def N8:Fn:=⟨["kt","tid","args"],
 (C (q (c .In (v "tid") (.gv "TID_PRIM"))
  (C (r (f "prim_kind" (A (v "tid") (A (v "args") B)))) D)
  D) (C (r (m (v "kt") "put" (A (u (A (gI "R_VALUE" 3) (A (v "tid") (A (v "args") B)))) B))) D))⟩
noncomputable def Og:Fn:=⟨["tid","args"],
 (C (q (c .Gt (f "len" (A (v "args") B)) (lI 0))
  (C (z "BadKind" (lS "argument") (v "tid")) D)
  D) (C (r (i (.gv "TID_PRIM") (v "tid"))) D))⟩
noncomputable def OJ:Fn:=⟨["kt","elem"],
 (C (r (m (v "kt") "put" (A (u (A (gI "R_ARRAY" 4) (A (v "elem") B))) B))) D)⟩
noncomputable def N7:Fn:=⟨["kt","i"],
 (C (r (m (v "kt") "put" (A (u (A (gI "R_VAR" 6) (A (v "i") B))) B))) D)⟩
noncomputable def Ou:Fn:=⟨["kt","k"],
 (C (r (i (m (v "kt") "row" (A (v "k") B)) (lI 0))) D)⟩
noncomputable def N9:Fn:=⟨["kt","k"],
 (C (a "row" (m (v "kt") "row" (A (v "k") B))) (C (q (o (A (c .Eq (i (v "row") (lI 0)) (gI "R_CLASS" 2)) (A (c .Eq (i (v "row") (lI 0)) (gI "R_VALUE" 3)) B)))
  (C (r (i (v "row") (lI 1))) D)
  D) (C (q (c .Eq (i (v "row") (lI 0)) (gI "R_PRIM" 1))
  (C (r (m (.gv "PRIM_TID") "get" (A (v "k") (A (lI 0) B)))) D)
  D) (C (q (c .Eq (i (v "row") (lI 0)) (gI "R_ARRAY" 4))
  (C (r (gI "ARRAY_TID" 5)) D)
  D) (C (r (lI 0)) D)))))⟩
noncomputable def OK:Fn:=⟨["kt","k"],
 (C (a "row" (m (v "kt") "row" (A (v "k") B))) (C (q (o (A (c .Eq (i (v "row") (lI 0)) (gI "R_CLASS" 2)) (A (c .Eq (i (v "row") (lI 0)) (gI "R_VALUE" 3)) B)))
  (C (r (i (v "row") (lI 2))) D)
  D) (C (r (u B)) D)))⟩
noncomputable def Ox:Fn:=⟨["kt","k"],
 (C (q (d (A (c .LtE (gI "BOOL" 1) (v "k")) (A (c .LtE (v "k") (gI "NINT" 11)) B)))
  (C (r (.lit (.bool true))) D)
  D) (C (r (c .Eq (i (m (v "kt") "row" (A (v "k") B)) (lI 0)) (gI "R_VALUE" 3))) D))⟩
noncomputable def Ow:Fn:=⟨["kt","k"],
 (C (a "sort" (i (m (v "kt") "row" (A (v "k") B)) (lI 0))) (C (r (o (A (c .Eq (v "sort") (gI "R_VAR" 6)) (A (c .Eq (v "sort") (gI "R_MVAR" 7)) B)))) D))⟩
noncomputable def OT:Fn:=⟨["self","zero"],
 (C (s (v "self") "rows" (l (A (v "zero") B))) D)⟩
noncomputable def OS:Fn:=⟨["self","value"],
 (C (.f6 "place" (f "len" (A (t (v "self") "rows") B))
  (C (q (c .Eq (i (t (v "self") "rows") (v "place")) (v "value"))
  (C (r (v "place")) D)
  D) D)) (C (x (m (t (v "self") "rows") "append" (A (v "value") B))) (C (r (b .Sub (f "len" (A (t (v "self") "rows") B)) (lI 1))) D)))⟩
noncomputable def OU:Fn:=⟨["self","place"],
 (C (q (o (A (c .Lt (v "place") (lI 0)) (A (c .GtE (v "place") (f "len" (A (t (v "self") "rows") B))) B)))
  (C (z "BadImage" (lS "offset") (v "place")) D)
  D) (C (r (i (t (v "self") "rows") (v "place"))) D))⟩
noncomputable def ON:Fn:=⟨["self"],
 (C (s (v "self") "rows" (e B)) D)⟩
noncomputable def OQ:Fn:=⟨["self","table","row"],
 (C (x (m (m (t (v "self") "rows") "setdefault" (A (v "table") (A (l B) B))) "append" (A (v "row") B))) (C (r (f "len" (A (i (t (v "self") "rows") (v "table")) B))) D))⟩
noncomputable def OO:Fn:=⟨["self","table","n"],
 (C (q (o (A (c .Lt (v "n") (lI 1)) (A (c .Gt (v "n") (m (v "self") "count" (A (v "table") B))) B)))
  (C (z "BadImage" (lS "row") (v "n")) D)
  D) (C (r (i (i (t (v "self") "rows") (v "table")) (b .Sub (v "n") (lI 1)))) D))⟩
noncomputable def OP:Fn:=⟨["self","table"],
 (C (r (f "len" (A (m (t (v "self") "rows") "get" (A (v "table") (A (l B) B))) B))) D)⟩
noncomputable def ux:Fn:=⟨["self","store","asm"],
 (C (s (v "self") "store" (v "store")) (C (s (v "self") "asm" (v "asm")) (C (s (v "self") "ts" (f "PlainTables" B)) (C (s (v "self") "texts" (f "PlainHeap" (A (lS "") B))) (C (s (v "self") "users" (f "PlainHeap" (A (lS "") B))) (C (s (v "self") "guids" (f "PlainHeap" (A .lK B))) (C (s (v "self") "blobs" (f "PlainHeap" (A .lK B))) (C (s (v "self") "code" (f "bytearray" B)) (C (s (v "self") "tokens" (.lit .none)) (C (s (v "self") "tids" (l B)) (C (s (v "self") "type_rows" (e B)) (C (s (v "self") "field_rows" (e B)) (C (s (v "self") "method_rows" (e B)) (C (s (v "self") "asm_refs" (e B)) (C (s (v "self") "type_refs" (e B)) (C (s (v "self") "specs" (e B)) (C (s (v "self") "members" (e B)) (C (s (v "self") "method_specs" (e B)) (C (s (v "self") "locals_sigs" (e B)) (C (s (v "self") "rvas" (e B)) D))))))))))))))))))))⟩
noncomputable def OV:Fn:=⟨["self","sort","tree"],
 (C (r (m (t (v "self") "blobs") "put" (A (v "tree") B))) D)⟩
noncomputable def q6:Fn:=⟨["self","tid","name","sort","flags","base","params","asm"],
 (C (s (v "self") "tid" (v "tid")) (C (s (v "self") "name" (v "name")) (C (s (v "self") "sort" (v "sort")) (C (s (v "self") "flags" (v "flags")) (C (s (v "self") "base" (v "base")) (C (s (v "self") "ifaces" (l B)) (C (s (v "self") "params" (l B)) (C (s (v "self") "variances" (l B)) (C (s (v "self") "bounds" (l B)) (C (w ["word"] (v "params")
  (C (x (m (t (v "self") "params") "append" (A (v "word") B))) (C (x (m (t (v "self") "variances") "append" (A (gI "VA_NONE" 0) B))) (C (x (m (t (v "self") "bounds") "append" (A (u (A (lI 0) (A (u B) B))) B))) D)))) (C (s (v "self") "fields" (l B)) (C (s (v "self") "methods" (l B)) (C (s (v "self") "asm" (v "asm")) (C (s (v "self") "cctor" (lI 0)) (C (s (v "self") "under" (n (lI 1))) (C (s (v "self") "impls" (l B)) (C (s (v "self") "props" (l B)) (C (s (v "self") "events" (l B)) (C (s (v "self") "finaliser" (lI 0)) (C (s (v "self") "home" (lI 0)) D))))))))))))))))))))⟩
noncomputable def DV:Fn:=⟨["self","fid","owner","name","kind","access","flags"],
 (C (s (v "self") "fid" (v "fid")) (C (s (v "self") "owner" (v "owner")) (C (s (v "self") "name" (v "name")) (C (s (v "self") "kind" (v "kind")) (C (s (v "self") "access" (v "access")) (C (s (v "self") "flags" (v "flags")) (C (s (v "self") "value" (.lit .none)) D)))))))⟩
noncomputable def OM:Fn:=⟨["self"],
 (C (s (v "self") "kt" (f "KindTable" B)) (C (s (v "self") "types" (l (A (.lit .none) B))) (C (s (v "self") "fields_" (l (A (.lit .none) B))) (C (s (v "self") "methods" (l (A (.lit .none) B))) (C (s (v "self") "names" (e B)) (C (s (v "self") "asms" (l B)) (C (s (v "self") "entry" (lI 0)) D)))))))⟩
noncomputable def Oj:Fn:=⟨["row","found","n"],
 (C (w ["other","told"] (v "found")
  (C (q (c .Eq (v "told") (v "row"))
  (C (q (c .NotEq (v "other") (v "n"))
   (C (z "BadImage" (lS "twice") (v "n")) D)
   D) (C .g8 D))
  D) D)) D)⟩
noncomputable def OA:Fn:=⟨["f"],
 (C (r (u (A (t (v "f") "name") (A (t (v "f") "kind") B)))) D)⟩
noncomputable def Oi:Fn:=⟨["p","fid"],
 (C (a "fields" (t (t (v "p") "store") "fields_")) (C (a "found" (.comp "n" (t (i (t (t (v "p") "store") "types") (t (i (v "fields") (v "fid")) "owner")) "fields") (u (A (v "n") (A (f "field_row_of" (A (i (v "fields") (v "n")) B)) B))))) (C (x (f "need_foremost" (A (f "field_row_of" (A (i (v "fields") (v "fid")) B)) (A (v "found") (A (v "fid") B))))) D)))⟩
noncomputable def Om:Fn:=⟨["store","row"],
 (C (q (d (A (c .NotEq (i (v "row") (lI 0)) (gI "R_CLASS" 2)) (A (c .NotEq (i (v "row") (lI 0)) (gI "R_VALUE" 3)) B)))
  (C .g8 D)
  D) (C (a "t" (i (t (v "store") "types") (i (v "row") (lI 1)))) (C (q (c .NotEq (f "len" (A (i (v "row") (lI 2)) B)) (f "len" (A (t (v "t") "params") B)))
  (C (z "BadImage" (lS "arity") (i (v "row") (lI 1))) D)
  D) (C (q (c .NotEq (c .Eq (i (v "row") (lI 0)) (gI "R_VALUE" 3)) (o (A (c .Eq (t (v "t") "sort") (gI "S_STRUCT" 2)) (A (c .Eq (t (v "t") "sort") (gI "S_ENUM" 5)) B))))
  (C (z "BadImage" (lS "sort") (i (v "row") (lI 1))) D)
  D) D))))⟩
noncomputable def Ol:Fn:=⟨["store","asm"],
 (C (q (o (A (c .Lt (v "asm") (lI 0)) (A (c .GtE (v "asm") (f "len" (A (t (v "store") "asms") B))) (A (c .In (i (t (v "store") "asms") (v "asm")) (g (t (v "store") "asms") (b .Add (v "asm") (lI 1)))) B))))
  (C (z "BadImage" (lS "asm") (v "asm")) D)
  D) D)⟩
noncomputable def DU:Fn:=⟨["store","asm","name","count"],
 (C (a "tid" (m (t (v "store") "names") "get" (A (u (A (v "asm") (A (v "name") (A (v "count") B)))) (A (lI 0) B)))) (C (.iX (d (A (v "tid") (A (c .Lt (v "tid") (f "len" (A (t (v "store") "types") B))) B)))
  (C (a "t" (i (t (v "store") "types") (v "tid"))) (C (q (d (A (c .IsNot (v "t") (.lit .none)) (A (c .Eq (t (v "t") "home") (lI 0)) (A (c .Eq (u (A (t (v "t") "asm") (A (t (v "t") "name") (A (f "len" (A (t (v "t") "params") B)) B)))) (u (A (v "asm") (A (v "name") (A (v "count") B))))) B))))
  (C (r (v "tid")) D)
  D) (C (.aug "tid" (lI 1)) D)))) (C (r (lI 0)) D)))⟩
noncomputable def Oh:Fn:=⟨["row"],
 (C (q (o (A (c .Lt (v "row") (lI 0)) (A (c .GtE (v "row") (gI "TOKEN_BASE" 16777216)) B)))
  (C (z "BadImage" (lS "row") (v "row")) D)
  D) D)⟩
noncomputable def Ot:Fn:=⟨["coded","table","row"],
 (C (x (f "need_row" (A (v "row") B))) (C (a "pair" (i (.gv "CODED") (v "coded"))) (C (.js "tag" "named" (i (v "pair") (lI 1))
  (C (q (d (A (c .Eq (v "named") (v "table")) (A (c .GtE (v "table") (lI 0)) B)))
  (C (r (b .BitOr (b .LShift (v "row") (i (v "pair") (lI 0))) (v "tag"))) D)
  D) D)) (C (z "BadImage" (lS "coded") (v "table")) D))))⟩
noncomputable def Oq:Fn:=⟨["table","row"],
 (C (x (f "need_row" (A (v "row") B))) (C (r (b .Add (b .Mult (v "table") (gI "TOKEN_BASE" 16777216)) (v "row"))) D))⟩
noncomputable def Oa:Fn:=⟨["token"],
 (C (r (u (A (b .FloorDiv (v "token") (gI "TOKEN_BASE" 16777216)) (A (b .Mod (v "token") (gI "TOKEN_BASE" 16777216)) B)))) D)⟩
noncomputable def uw:Fn:=⟨["p"],
 (C (a "names" (e B)) (C (a "fields" (lI 0)) (C (a "methods" (lI 0)) (C (.iC "tid" (lI 1) (f "len" (A (t (t (v "p") "store") "types") B))
  (C (a "t" (i (t (t (v "p") "store") "types") (v "tid"))) (C (q (o (A (c .Is (v "t") (.lit .none)) (A (c .NotEq (t (v "t") "asm") (t (v "p") "asm")) B)))
  (C .cont D)
  D) (C (q (c .In (f "chr" (A (lI 96) B)) (t (v "t") "name"))
  (C (z "BadImage" (lS "name") (v "tid")) D)
  D) (C (a "key" (u (A (t (v "t") "name") (A (f "len" (A (t (v "t") "params") B)) B)))) (C (q (d (A (c .Eq (t (v "t") "home") (lI 0)) (A (c .In (v "key") (v "names")) B)))
  (C (z "BadImage" (lS "twice") (v "tid")) D)
  D) (C (q (c .Eq (t (v "t") "home") (lI 0))
  (C (j (v "names") (v "key") (v "tid")) D)
  D) (C (x (m (t (v "p") "tids") "append" (A (v "tid") B))) (C (j (t (v "p") "type_rows") (v "tid") (b .Add (f "len" (A (t (v "p") "tids") B)) (lI 1))) (C (.aug "fields" (f "enum_fields" (A (v "t") B))) (C (w ["fid"] (t (v "t") "fields")
  (C (.aug "fields" (lI 1)) (C (j (t (v "p") "field_rows") (v "fid") (v "fields")) D))) (C (w ["mid"] (t (v "t") "methods")
  (C (.aug "methods" (lI 1)) (C (j (t (v "p") "method_rows") (v "mid") (v "methods")) D))) D)))))))))))) D))))⟩
noncomputable def OC:Fn:=⟨["t"],
 (C (q (c .NotEq (t (v "t") "sort") (gI "S_ENUM" 5))
  (C (r (lI 0)) D)
  D) (C (q (c .Lt (t (v "t") "under") (lI 0))
  (C (z "BadImage" (lS "enum") (t (v "t") "tid")) D)
  D) (C (r (lI 1)) D)))⟩
noncomputable def Od:Fn:=⟨["t"],
 (C (q (c .Eq (f "len" (A (t (v "t") "params") B)) (lI 0))
  (C (r (t (v "t") "name")) D)
  D) (C (r (b .Add (b .Add (t (v "t") "name") (f "chr" (A (lI 96) B))) (f "str" (A (f "len" (A (t (v "t") "params") B)) B)))) D))⟩
noncomputable def OI:Fn:=⟨["p","asm"],
 (C (q (c .NotIn (v "asm") (t (v "p") "asm_refs"))
  (C (x (f "need_asm" (A (t (v "p") "store") (A (v "asm") B)))) (C (a "name" (m (t (v "p") "texts") "put" (A (i (t (t (v "p") "store") "asms") (v "asm")) B))) (C (j (t (v "p") "asm_refs") (v "asm") (m (t (v "p") "ts") "add" (A (gI "TB_ASSEMBLYREF" 35) (A (u (A (lI 1) (A (lI 0) (A (lI 0) (A (lI 0) (A (lI 0) (A (lI 0) (A (v "name") (A (lI 0) (A (lI 0) B)))))))))) B)))) D)))
  D) (C (r (i (t (v "p") "asm_refs") (v "asm"))) D))⟩
noncomputable def oC:Fn:=⟨["p","tid"],
 (C (q (c .In (v "tid") (t (v "p") "type_rows"))
  (C (r (f "make_token" (A (gI "TB_TYPEDEF" 2) (A (i (t (v "p") "type_rows") (v "tid")) B)))) D)
  D) (C (q (c .NotIn (v "tid") (t (v "p") "type_refs"))
  (C (q (o (A (c .LtE (v "tid") (lI 0)) (A (c .GtE (v "tid") (f "len" (A (t (t (v "p") "store") "types") B))) (A (c .Is (i (t (t (v "p") "store") "types") (v "tid")) (.lit .none)) B))))
  (C (z "BadImage" (lS "type") (v "tid")) D)
  D) (C (a "t" (i (t (t (v "p") "store") "types") (v "tid"))) (C (q (c .Gt (t (v "t") "home") (lI 0))
  (C (z "BadImage" (lS "home") (v "tid")) D)
  D) (C (q (o (A (c .NotEq (f "floor_type" (A (t (v "p") "store") (A (t (v "t") "asm") (A (t (v "t") "name") (A (f "len" (A (t (v "t") "params") B)) B))))) (v "tid")) (A (c .In (f "chr" (A (lI 96) B)) (t (v "t") "name")) B)))
  (C (z "BadImage" (lS "twice") (v "tid")) D)
  D) (C (a "scope" (f "make_coded" (A (gI "CD_RESOLUTIONSCOPE" 5) (A (gI "TB_ASSEMBLYREF" 35) (A (f "asm_ref_row" (A (v "p") (A (t (v "t") "asm") B))) B))))) (C (j (t (v "p") "type_refs") (v "tid") (m (t (v "p") "ts") "add" (A (gI "TB_TYPEREF" 1) (A (u (A (v "scope") (A (m (t (v "p") "texts") "put" (A (f "row_name" (A (v "t") B)) B)) (A (lI 0) B)))) B)))) D))))))
  D) (C (r (f "make_token" (A (gI "TB_TYPEREF" 1) (A (i (t (v "p") "type_refs") (v "tid")) B)))) D)))⟩
noncomputable def Ob:Fn:=⟨["p","k"],
 (C (q (c .In (v "k") (.gv "PRIM_ELEMENT"))
  (C (r (u (A (i (.gv "PRIM_ELEMENT") (v "k")) B))) D)
  D) (C (a "row" (m (t (t (v "p") "store") "kt") "row" (A (v "k") B))) (C (a "sort" (i (v "row") (lI 0))) (C (q (o (A (c .Eq (v "sort") (gI "R_CLASS" 2)) (A (c .Eq (v "sort") (gI "R_VALUE" 3)) B)))
  (C (r (f "named_tree" (A (v "p") (A (v "row") B)))) D)
  D) (C (q (c .Eq (v "sort") (gI "R_ARRAY" 4))
  (C (r (u (A (gI "E_SZARRAY" 29) (A (f "sig_tree" (A (v "p") (A (i (v "row") (lI 1)) B))) B)))) D)
  D) (C (q (c .Eq (v "sort") (gI "R_BYREF" 5))
  (C (r (u (A (gI "E_BYREF" 16) (A (f "sig_tree" (A (v "p") (A (i (v "row") (lI 1)) B))) B)))) D)
  D) (C (q (c .Eq (v "sort") (gI "R_VAR" 6))
  (C (r (u (A (gI "E_VAR" 19) (A (i (v "row") (lI 1)) B)))) D)
  D) (C (q (c .Eq (v "sort") (gI "R_MVAR" 7))
  (C (r (u (A (gI "E_MVAR" 30) (A (i (v "row") (lI 1)) B)))) D)
  D) (C (z "BadSig" (lS "kind") (v "k")) D)))))))))⟩
noncomputable def q5:Fn:=⟨["p","row"],
 (C (a "element" (gI "E_CLASS" 18)) (C (q (c .Eq (i (v "row") (lI 0)) (gI "R_VALUE" 3))
  (C (a "element" (gI "E_VALUETYPE" 17)) D)
  D) (C (a "token" (f "type_token" (A (v "p") (A (i (v "row") (lI 1)) B)))) (C (x (f "need_as_defined" (A (t (v "p") "store") (A (v "row") B)))) (C (q (c .Eq (f "len" (A (i (v "row") (lI 2)) B)) (lI 0))
  (C (r (u (A (v "element") (A (v "token") B)))) D)
  D) (C (a "inner" (l B)) (C (w ["arg"] (i (v "row") (lI 2))
  (C (x (m (v "inner") "append" (A (f "sig_tree" (A (v "p") (A (v "arg") B))) B))) D)) (C (r (u (A (gI "E_GENERICINST" 21) (A (v "element") (A (v "token") (A (f "tuple" (A (v "inner") B)) B)))))) D))))))))⟩
noncomputable def Oy:Fn:=⟨["p","k"],
 (C (a "sort" (f "kind_sort" (A (t (t (v "p") "store") "kt") (A (v "k") B)))) (C (q (c .Eq (v "sort") (gI "R_PRIM" 1))
  (C (r (c .Gt (f "tid_of" (A (t (t (v "p") "store") "kt") (A (v "k") B))) (lI 0))) D)
  D) (C (r (d (A (o (A (c .Eq (v "sort") (gI "R_CLASS" 2)) (A (c .Eq (v "sort") (gI "R_VALUE" 3)) B))) (A (c .Eq (f "len" (A (f "args_of" (A (t (t (v "p") "store") "kt") (A (v "k") B))) B)) (lI 0)) B)))) D)))⟩
noncomputable def yk:Fn:=⟨["p","k"],
 (C (q (f "is_plain" (A (v "p") (A (v "k") B)))
  (C (a "token" (f "type_token" (A (v "p") (A (f "tid_of" (A (t (t (v "p") "store") "kt") (A (v "k") B))) B)))) (C (x (f "need_as_defined" (A (t (v "p") "store") (A (m (t (t (v "p") "store") "kt") "row" (A (v "k") B)) B)))) (C (r (v "token")) D)))
  D) (C (q (c .NotIn (v "k") (t (v "p") "specs"))
  (C (a "blob" (m (v "p") "sig" (A (gI "SG_TYPESPEC" 0) (A (f "sig_tree" (A (v "p") (A (v "k") B))) B)))) (C (j (t (v "p") "specs") (v "k") (m (t (v "p") "ts") "add" (A (gI "TB_TYPESPEC" 27) (A (u (A (v "blob") B)) B)))) D))
  D) (C (r (f "make_token" (A (gI "TB_TYPESPEC" 27) (A (i (t (v "p") "specs") (v "k")) B)))) D)))⟩
noncomputable def Ov:Fn:=⟨["p","coded","k"],
 (C (.fP ["table","row"] (f "split_token" (A (f "kind_token" (A (v "p") (A (v "k") B))) B))) (C (r (f "make_coded" (A (v "coded") (A (v "table") (A (v "row") B))))) D))⟩
noncomputable def OB:Fn:=⟨["p","fid"],
 (C (r (m (v "p") "sig" (A (gI "SG_FIELD" 2) (A (u (A (gI "SIG_FIELD" 6) (A (f "sig_tree" (A (v "p") (A (t (i (t (t (v "p") "store") "fields_") (v "fid")) "kind") B))) B))) B)))) D)⟩
noncomputable def OL:Fn:=⟨["p","key","owner","name","blob"],
 (C (a "parent" (f "kind_coded" (A (v "p") (A (gI "CD_MEMBERREFPARENT" 2) (A (v "owner") B))))) (C (j (t (v "p") "members") (v "key") (m (t (v "p") "ts") "add" (A (gI "TB_MEMBERREF" 10) (A (u (A (v "parent") (A (m (t (v "p") "texts") "put" (A (v "name") B)) (A (v "blob") B)))) B)))) D))⟩
noncomputable def OE:Fn:=⟨["p","rows","owner","n","word"],
 (C (q (o (A (c .LtE (v "n") (lI 0)) (A (c .GtE (v "n") (f "len" (A (v "rows") B))) (A (c .Is (i (v "rows") (v "n")) (.lit .none)) B))))
  (C (z "BadImage" (v "word") (v "n")) D)
  D) (C (a "declared" (t (i (v "rows") (v "n")) "owner")) (C (q (c .NotEq (f "tid_of" (A (t (t (v "p") "store") "kt") (A (v "owner") B))) (v "declared"))
  (C (z "BadImage" (lS "owner") (v "n")) D)
  D) (C (q (c .NotEq (f "len" (A (f "args_of" (A (t (t (v "p") "store") "kt") (A (v "owner") B))) B)) (f "len" (A (t (i (t (t (v "p") "store") "types") (v "declared")) "params") B)))
  (C (z "BadImage" (lS "owner") (v "n")) D)
  D) D))))⟩
noncomputable def yl:Fn:=⟨["p","fref"],
 (C (.fP ["owner","fid"] (v "fref")) (C (x (f "check_use" (A (v "p") (A (t (t (v "p") "store") "fields_") (A (v "owner") (A (v "fid") (A (lS "field") B))))))) (C (q (d (A (c .In (v "fid") (t (v "p") "field_rows")) (A (f "is_plain" (A (v "p") (A (v "owner") B))) B)))
  (C (r (f "make_token" (A (gI "TB_FIELD" 4) (A (i (t (v "p") "field_rows") (v "fid")) B)))) D)
  D) (C (a "key" (u (A (lS "f") (A (v "owner") (A (v "fid") B))))) (C (q (c .NotIn (v "key") (t (v "p") "members"))
  (C (x (f "need_own_field" (A (v "p") (A (v "fid") B)))) (C (x (f "add_member" (A (v "p") (A (v "key") (A (v "owner") (A (t (i (t (t (v "p") "store") "fields_") (v "fid")) "name") (A (f "field_blob" (A (v "p") (A (v "fid") B))) B))))))) D))
  D) (C (r (f "make_token" (A (gI "TB_MEMBERREF" 10) (A (i (t (v "p") "members") (v "key")) B)))) D))))))⟩
noncomputable def BL:Fn:=⟨["w","kt","x"],
 (C (q (c .Eq (i (v "x") (lI 0)) (lI 0))
  (C (r (i (v "x") (lI 1))) D)
  D) (C (q (c .Eq (i (v "x") (lI 0)) (n (lI 1)))
  (C (r (f "array_kind" (A (v "kt") (A (f "_law_kind" (A (v "w") (A (v "kt") (A (i (v "x") (lI 1)) B)))) B)))) D)
  D) (C (q (c .Eq (i (v "x") (lI 0)) (n (lI 2)))
  (C (r (f "var_kind" (A (v "kt") (A (i (v "x") (lI 1)) B)))) D)
  D) (C (a "inner" (f "tuple" (A (.comp "y" (g (v "x") (lI 1)) (f "_law_kind" (A (v "w") (A (v "kt") (A (v "y") B))))) B))) (C (r (.fZ (i (i (i (v "w") (lS "types")) (i (v "x") (lI 0))) (lI 3)) (f "value_kind" (A (v "kt") (A (i (v "x") (lI 0)) (A (v "inner") B)))) (f "class_kind" (A (v "kt") (A (i (v "x") (lI 0)) (A (v "inner") B)))))) D)))))⟩
noncomputable def BK:Fn:=⟨["w","tid","n"],
 (C (a "row" (u (A (u (A (lI 0) (A (lI 7) B))) (A (u (A (n (lI 2)) (A (lI 0) B))) (A (u (A (lI 0) (A (lI 13) B))) (A (u (A (n (lI 1)) (A (u (A (lI 0) (A (lI 9) B))) B))) (A (u (A (lI 48) B)) (A (u (A (b .Add (lI 40) (b .Mod (b .FloorDiv (v "n") (lI 5)) (lI 8))) B)) B)))))))) (C (a "given" (i (v "row") (b .Mod (v "n") (lI 6)))) (C (q (c .Gt (i (v "given") (lI 0)) (lI 39))
  (C (a "given" (b .Add (v "given") (h (u (A (u (A (lI 0) (A (lI 7) B))) (A (u (A (lI 0) (A (lI 12) B))) B))) (i (i (i (v "w") (lS "types")) (i (v "given") (lI 0))) (lI 2))))) D)
  D) (C (r (b .Add (u (A (v "tid") B)) (h (u (A (v "given") (A (i (v "row") (b .Mod (b .FloorDiv (v "n") (lI 6)) (lI 4))) B))) (i (i (i (v "w") (lS "types")) (v "tid")) (lI 2))))) D))))⟩
noncomputable def K8:Fn:=⟨["w","n"],
 (C (q (c .Lt (b .Mod (v "n") (lI 6)) (lI 3))
  (C (r (i (u (A (u (A (lI 0) (A (lI 7) B))) (A (u (A (lI 0) (A (lI 13) B))) (A (u (A (n (lI 2)) (A (lI 0) B))) B)))) (b .Mod (v "n") (lI 6)))) D)
  D) (C (q (c .Eq (b .Mod (v "n") (lI 6)) (lI 3))
  (C (r (u (A (n (lI 1)) (A (f "_law_drawn" (A (v "w") (A (b .FloorDiv (v "n") (lI 6)) B))) B)))) D)
  D) (C (r (f "_law_of" (A (v "w") (A (b .Add (lI 40) (b .Mod (b .FloorDiv (v "n") (lI 6)) (lI 11))) (A (b .FloorDiv (v "n") (lI 66)) B))))) D)))⟩
noncomputable def qq:Fn:=⟨["nums"],
 (C (a "out" (e B)) (C (.f6 "i" (lI 8)
  (C (a "n" (b .Add (b .FloorDiv (i (v "nums") (b .Mod (v "i") (f "len" (A (v "nums") B)))) (b .Add (b .FloorDiv (v "i") (f "len" (A (v "nums") B))) (lI 1))) (b .Mult (lI 31) (v "i")))) (C (a "name" (i (u (A (lS "L") (A (lS "L") (A (lS "M") (A (b .Add (b .Add (lS "L") (f "chr" (A (lI 96) B))) (lS "1")) B))))) (b .Mod (b .FloorDiv (v "n") (lI 3)) (lI 4)))) (C (j (v "out") (b .Add (lI 40) (v "i")) (u (A (i (u (A (lI 1) (A (lI 3) (A (lI 0) B)))) (b .Mod (v "n") (lI 3))) (A (v "name") (A (b .Mod (b .FloorDiv (v "n") (lI 12)) (lI 3)) (A (b .Mod (b .FloorDiv (v "n") (lI 108)) (lI 2)) (A (.fZ (c .Eq (b .Mod (b .FloorDiv (v "n") (lI 36)) (lI 3)) (lI 0)) (lI 1) (lI 0)) B))))))) D)))) (C (j (v "out") (lI 48) (u (A (lI 2) (A (lS "L") (A (lI 0) (A (lI 0) (A (lI 0) B))))))) (C (j (v "out") (lI 49) (u (A (lI 2) (A (lS "L") (A (lI 1) (A (lI 0) (A (lI 0) B))))))) (C (j (v "out") (lI 50) (u (A (lI 2) (A (lS "M") (A (lI 0) (A (lI 1) (A (lI 1) B))))))) (C (r (v "out")) D))))))⟩
noncomputable def d7:Fn:=⟨["w","nums"],
 (C (a "store" (f "Store" B)) (C (w ["word"] (.gv "_law_ASMS")
  (C (x (m (t (v "store") "asms") "append" (A (v "word") B))) D)) (C (s (v "store") "types" (.rep (.lit .none) 51)) (C (w ["tid"] (i (v "w") (lS "types"))
  (C (.fP ["asm","name","count","struct","home"] (i (i (v "w") (lS "types")) (v "tid"))) (C (a "t" (f "TypeDef" (A (v "tid") (A (v "name") (A (.fZ (v "struct") (lI 2) (lI 1)) (A (lI 0) (A (n (lI 1)) (A (h (u (A (lS "T") (A (lS "U") B))) (v "count")) (A (v "asm") B))))))))) (C (s (v "t") "home" (b .Mult (lI 40) (v "home"))) (C (j (t (v "store") "types") (v "tid") (v "t")) (C (x (m (t (v "store") "names") "setdefault" (A (u (A (v "asm") (A (v "name") (A (v "count") B)))) (A (v "tid") B)))) D)))))) (C (w ["tid"] (i (v "w") (lS "types"))
  (C (a "n" (b .Add (i (v "nums") (b .Mod (b .Sub (v "tid") (lI 17)) (f "len" (A (v "nums") B)))) (b .Mult (lI 7) (b .Sub (v "tid") (lI 20))))) (C (w ["word"] (u (A (lS "f") (A (lS "g") B)))
  (C (a "fid" (f "len" (A (t (v "store") "fields_") B))) (C (a "x" (f "_law_drawn" (A (v "w") (A (b .Mod (v "n") (lI 100003)) B)))) (C (x (m (i (v "w") (lS "fields")) "append" (A (u (A (v "tid") (A (v "word") (A (v "x") B)))) B))) (C (x (m (t (v "store") "fields_") "append" (A (f "FieldDef" (A (v "fid") (A (v "tid") (A (v "word") (A (f "_law_kind" (A (v "w") (A (t (v "store") "kt") (A (v "x") B)))) (A (lI 6) (A (lI 0) B))))))) B))) (C (x (m (t (i (t (v "store") "types") (v "tid")) "fields") "append" (A (v "fid") B))) (C (a "n" (b .Add (b .FloorDiv (v "n") (lI 12)) (lI 5))) D))))))) D))) (C (r (v "store")) D))))))⟩
noncomputable def K7:Fn:=⟨["w","word","n"],
 (C (j (v "w") (lS "bad") (u (A (v "word") (A (v "n") B)))) (C (r (lI 0)) D))⟩
noncomputable def xh:Fn:=⟨["w","asm"],
 (C (q (i (v "w") (lS "bad"))
  (C (r (lI 0)) D)
  D) (C (q (c .NotIn (v "asm") (u (A (lI 0) (A (lI 1) (A (lI 3) B)))))
  (C (r (f "_law_fail" (A (v "w") (A (lS "asm") (A (v "asm") B))))) D)
  D) (C (q (c .NotIn (v "asm") (i (v "w") (lS "asms")))
  (C (x (m (i (v "w") (lS "asms")) "append" (A (v "asm") B))) D)
  D) (C (r (b .Add (lI 1) (m (i (v "w") (lS "asms")) "index" (A (v "asm") B)))) D))))⟩
noncomputable def tH:Fn:=⟨["w","tid"],
 (C (.iC "other" (lI 40) (lI 48)
  (C (q (d (A (c .Eq (h (i (i (v "w") (lS "types")) (v "other")) (lI 3)) (h (i (i (v "w") (lS "types")) (v "tid")) (lI 3))) (A (c .Eq (i (i (i (v "w") (lS "types")) (v "other")) (lI 4)) (lI 0)) B)))
  (C (r (v "other")) D)
  D) D)) (C (r (lI 0)) D))⟩
noncomputable def xg:Fn:=⟨["w","tid"],
 (C (q (i (v "w") (lS "bad"))
  (C (r (lI 0)) D)
  D) (C (q (c .NotIn (v "tid") (i (v "w") (lS "types")))
  (C (r (f "_law_fail" (A (v "w") (A (lS "type") (A (v "tid") B))))) D)
  D) (C (q (c .Gt (v "tid") (lI 47))
  (C (r (b .Sub (b .Add (lI 33554432) (v "tid")) (lI 46))) D)
  D) (C (q (c .NotIn (v "tid") (i (v "w") (lS "refs")))
  (C (q (i (i (i (v "w") (lS "types")) (v "tid")) (lI 4))
  (C (r (f "_law_fail" (A (v "w") (A (lS "home") (A (v "tid") B))))) D)
  D) (C (q (o (A (c .NotEq (f "_law_first" (A (v "w") (A (v "tid") B))) (v "tid")) (A (c .Gt (f "len" (A (i (i (i (v "w") (lS "types")) (v "tid")) (lI 1)) B)) (lI 1)) B)))
  (C (r (f "_law_fail" (A (v "w") (A (lS "twice") (A (v "tid") B))))) D)
  D) (C (x (f "_law_asm" (A (v "w") (A (i (i (i (v "w") (lS "types")) (v "tid")) (lI 0)) B)))) (C (x (m (i (v "w") (lS "refs")) "append" (A (v "tid") B))) D))))
  D) (C (r (b .Add (b .Add (lI 16777216) (lI 1)) (m (i (v "w") (lS "refs")) "index" (A (v "tid") B)))) D)))))⟩
noncomputable def BJ:Fn:=⟨["w","x"],
 (C (q (c .Eq (i (v "x") (lI 0)) (lI 0))
  (C (r (u (A (i (e (A (lI 7) (A (lI 8) (A (lI 9) (A (lI 10) (A (lI 12) (A (lI 28) (A (lI 13) (A (lI 14) B))))))))) (i (v "x") (lI 1))) B))) D)
  D) (C (q (c .Eq (i (v "x") (lI 0)) (n (lI 1)))
  (C (r (u (A (lI 29) (A (f "_law_tree" (A (v "w") (A (i (v "x") (lI 1)) B))) B)))) D)
  D) (C (q (c .Eq (i (v "x") (lI 0)) (n (lI 2)))
  (C (r (u (A (lI 19) (A (i (v "x") (lI 1)) B)))) D)
  D) (C (a "token" (f "_law_def" (A (v "w") (A (i (v "x") (lI 0)) B)))) (C (a "element" (.fZ (i (i (i (v "w") (lS "types")) (i (v "x") (lI 0))) (lI 3)) (lI 17) (lI 18))) (C (q (c .Eq (f "len" (A (v "x") B)) (lI 1))
  (C (r (u (A (v "element") (A (v "token") B)))) D)
  D) (C (r (u (A (lI 21) (A (v "element") (A (v "token") (A (f "tuple" (A (.comp "y" (g (v "x") (lI 1)) (f "_law_tree" (A (v "w") (A (v "y") B)))) B)) B)))))) D)))))))⟩
noncomputable def xf:Fn:=⟨["w","x"],
 (C (q (c .Eq (f "len" (A (v "x") B)) (lI 1))
  (C (a "token" (f "_law_def" (A (v "w") (A (i (v "x") (lI 0)) B)))) (C (r (b .Add (b .Mult (b .Mod (v "token") (lI 16777216)) (lI 8)) (b .Mod (b .FloorDiv (v "token") (lI 16777216)) (lI 2)))) D))
  D) (C (q (c .NotIn (v "x") (i (v "w") (lS "owners")))
  (C (a "tree" (f "_law_tree" (A (v "w") (A (v "x") B)))) (C (q (i (v "w") (lS "bad"))
  (C (r (lI 0)) D)
  D) (C (x (m (i (v "w") (lS "owners")) "append" (A (v "x") B))) (C (x (m (i (v "w") (lS "specs")) "append" (A (v "tree") B))) D))))
  D) (C (r (b .Add (b .Mult (b .Add (lI 1) (m (i (v "w") (lS "owners")) "index" (A (v "x") B))) (lI 8)) (lI 4))) D)))⟩
noncomputable def nJ:Fn:=⟨["w","x","fid"],
 (C (.fP ["tid","word","kind"] (i (i (v "w") (lS "fields")) (v "fid"))) (C (q (d (A (c .Gt (v "tid") (lI 47)) (A (c .Eq (f "len" (A (v "x") B)) (lI 1)) B)))
  (C (r (b .Sub (b .Add (lI 67108864) (v "fid")) (lI 16))) D)
  D) (C (q (c .NotIn (u (A (v "x") (A (v "fid") B))) (i (v "w") (lS "used")))
  (C (a "tree" (f "_law_tree" (A (v "w") (A (v "kind") B)))) (C (q (i (v "w") (lS "bad"))
  (C (r (lI 0)) D)
  D) (C (a "parent" (f "_law_parent" (A (v "w") (A (v "x") B)))) (C (q (i (v "w") (lS "bad"))
  (C (r (lI 0)) D)
  D) (C (x (m (i (v "w") (lS "used")) "append" (A (u (A (v "x") (A (v "fid") B))) B))) (C (x (m (i (v "w") (lS "members")) "append" (A (u (A (v "parent") (A (v "word") (A (u (A (lI 6) (A (v "tree") B))) B)))) B))) D))))))
  D) (C (r (b .Add (lI 167772161) (m (i (v "w") (lS "used")) "index" (A (u (A (v "x") (A (v "fid") B))) B)))) D))))⟩
noncomputable def K5:Fn:=⟨["w","tid"],
 (C (.fP ["asm","name","count","struct","home"] (i (i (v "w") (lS "types")) (v "tid"))) (C (r (u (A (b .Add (b .Mult (m (i (v "w") (lS "asms")) "index" (A (v "asm") B)) (lI 4)) (lI 6)) (A (.fZ (v "count") (b .Add (b .Add (v "name") (f "chr" (A (lI 96) B))) (f "str" (A (v "count") B))) (v "name")) (A (lI 0) B))))) D))⟩
noncomputable def ji:Fn:=⟨["w","p"],
 (C (a "refs" (l B)) (C (w ["row"] (m (t (t (v "p") "ts") "rows") "get" (A (lI 1) (A (l B) B)))
  (C (x (m (v "refs") "append" (A (b .Add (u (A (i (v "row") (lI 0)) (A (m (t (v "p") "texts") "get" (A (i (v "row") (lI 1)) B)) B))) (g (v "row") (lI 2))) B))) D)) (C (a "asms" (l B)) (C (w ["row"] (m (t (t (v "p") "ts") "rows") "get" (A (lI 35) (A (l B) B)))
  (C (x (m (v "asms") "append" (A (b .Add (b .Add (h (v "row") (lI 6)) (u (A (m (t (v "p") "texts") "get" (A (i (v "row") (lI 6)) B)) B))) (g (v "row") (lI 7))) B))) D)) (C (a "specs" (.gj "row" (m (t (t (v "p") "ts") "rows") "get" (A (lI 27) (A (l B) B))) (c .Eq (f "len" (A (v "row") B)) (lI 1)) (m (t (v "p") "blobs") "get" (A (i (v "row") (lI 0)) B)))) (C (a "members" (l B)) (C (w ["row"] (m (t (t (v "p") "ts") "rows") "get" (A (lI 10) (A (l B) B)))
  (C (x (m (v "members") "append" (A (b .Add (u (A (i (v "row") (lI 0)) (A (m (t (v "p") "texts") "get" (A (i (v "row") (lI 1)) B)) B))) (f "tuple" (A (.comp "place" (g (v "row") (lI 2)) (m (t (v "p") "blobs") "get" (A (v "place") B))) B))) B))) D)) (C (w ["table"] (t (t (v "p") "ts") "rows")
  (C (q (c .NotIn (v "table") (u (A (lI 1) (A (lI 35) (A (lI 27) (A (lI 10) B))))))
  (C (r (.lit (.bool false))) D)
  D) D)) (C (q (o (A (c .NotEq (v "refs") (.comp "tid" (i (v "w") (lS "refs")) (f "_law_written" (A (v "w") (A (v "tid") B))))) (A (c .NotEq (m (t (v "p") "ts") "count" (A (lI 27) B)) (f "len" (A (i (v "w") (lS "specs")) B))) B)))
  (C (r (.lit (.bool false))) D)
  D) (C (q (c .NotEq (v "asms") (.comp "asm" (i (v "w") (lS "asms")) (u (A (lI 1) (A (lI 0) (A (lI 0) (A (lI 0) (A (lI 0) (A (lI 0) (A (i (.gv "_law_ASMS") (v "asm")) (A (lI 0) (A (lI 0) B))))))))))))
  (C (r (.lit (.bool false))) D)
  D) (C (r (d (A (c .Eq (v "specs") (i (v "w") (lS "specs"))) (A (c .Eq (v "members") (i (v "w") (lS "members"))) B)))) D)))))))))))⟩
noncomputable def K6:Fn:=⟨["w","n"],
 (C (a "sort" (b .Mod (v "n") (lI 5))) (C (a "n" (b .FloorDiv (v "n") (lI 5))) (C (q (c .Eq (v "sort") (lI 0))
  (C (r (u (A (lS "t") (A (i (u (A (b .Add (lI 40) (b .Mod (v "n") (lI 8))) (A (b .Add (lI 48) (b .Mod (v "n") (lI 3))) (A (lI 39) (A (lI 0) (A (lI 51) (A (n (lI 1)) (A (b .Add (lI 40) (b .Mod (b .FloorDiv (v "n") (lI 8)) (lI 8))) B)))))))) (b .Mod (b .FloorDiv (v "n") (lI 64)) (lI 7))) B)))) D)
  D) (C (q (c .Eq (v "sort") (lI 4))
  (C (r (u (A (lS "a") (A (i (u (A (lI 1) (A (lI 3) (A (lI 0) (A (lI 1) (A (lI 4) (A (n (lI 1)) B))))))) (b .Mod (v "n") (lI 6))) B)))) D)
  D) (C (a "tid" (b .Add (lI 40) (b .Mod (v "n") (lI 11)))) (C (r (u (A (lS "f") (A (f "_law_of" (A (v "w") (A (v "tid") (A (b .FloorDiv (v "n") (lI 22)) B)))) (A (b .Add (b .Add (lI 1) (b .Mult (lI 2) (b .Sub (v "tid") (lI 40)))) (b .Mod (b .FloorDiv (v "n") (lI 11)) (lI 2))) B))))) D))))))⟩
noncomputable def xe:Fn:=⟨["w","p","use"],
 (C (j (v "w") (lS "bad") (u B)) (C (q (c .Eq (i (v "use") (lI 0)) (lS "t"))
  (C (a "want" (f "_law_def" (A (v "w") (A (i (v "use") (lI 1)) B)))) D)
  (C (q (c .Eq (i (v "use") (lI 0)) (lS "a"))
  (C (a "want" (f "_law_asm" (A (v "w") (A (i (v "use") (lI 1)) B)))) D)
  (C (a "want" (f "_law_field" (A (v "w") (A (i (v "use") (lI 1)) (A (i (v "use") (lI 2)) B))))) D)) D)) (C (.i5 (C (q (c .Eq (i (v "use") (lI 0)) (lS "t"))
  (C (a "got" (f "type_token" (A (v "p") (A (i (v "use") (lI 1)) B)))) D)
  (C (q (c .Eq (i (v "use") (lI 0)) (lS "a"))
   (C (a "got" (f "asm_ref_row" (A (v "p") (A (i (v "use") (lI 1)) B)))) D)
   (C (a "got" (f "field_token" (A (v "p") (A (u (A (f "_law_kind" (A (v "w") (A (t (t (v "p") "store") "kt") (A (i (v "use") (lI 1)) B)))) (A (i (v "use") (lI 2)) B))) B)))) D)) D)) D) "BadImage" "err"
  (c .Eq (i (v "w") (lS "bad")) (u (A (.iG "err" "code") (A (.iG "err" "at") B))))) (C (r (d (A (c .Eq (f "len" (A (i (v "w") (lS "bad")) B)) (lI 0)) (A (c .Eq (v "got") (v "want")) B)))) D))))⟩
noncomputable def fj:Fn:=⟨["script"],
 (C (a "nums" (.comp "n" (h (v "script") (lI 16)) (b .Mod (v "n") (lI 1000003)))) (C (q (c .Eq (f "len" (A (v "nums") B)) (lI 0))
  (C (a "nums" (l (A (lI 12) (A (lI 17) (A (lI 305) B))))) D)
  D) (C (a "w" (e (A (lS "types") (A (f "_law_types" (A (v "nums") B)) (A (lS "fields") (A (l (A (.lit .none) B)) (A (lS "bad") (A (u B) (A (lS "asms") (A (l B) (A (lS "refs") (A (l B) (A (lS "owners") (A (l B) (A (lS "specs") (A (l B) (A (lS "used") (A (l B) (A (lS "members") (A (l B) B)))))))))))))))))))) (C (a "store" (f "_law_store" (A (v "w") (A (v "nums") B)))) (C (a "p" (f "Pages" (A (v "store") (A (lI 2) B)))) (C (x (f "number_rows" (A (v "p") B))) (C (a "uses" (l (A (u (A (lS "t") (A (lI 40) B))) (A (u (A (lS "f") (A (f "_law_of" (A (v "w") (A (lI 49) (A (i (v "nums") (lI 0)) B)))) (A (lI 19) B)))) B)))) (C (q (c .Eq (f "len" (A (v "script") B)) (lI 0))
  (C (a "uses" (b .Add (v "uses") (l (A (u (A (lS "t") (A (lI 41) B))) (A (u (A (lS "f") (A (u (A (lI 41) (A (u (A (lI 45) (A (u (A (lI 0) (A (lI 7) B))) B))) B))) (A (lI 3) B)))) (A (u (A (lS "f") (A (u (A (lI 43) (A (u (A (lI 0) (A (lI 7) B))) (A (u (A (lI 48) B)) B)))) (A (lI 8) B)))) (A (u (A (lS "t") (A (lI 44) B))) (A (u (A (lS "t") (A (lI 46) B))) (A (u (A (lS "t") (A (lI 42) B))) (A (u (A (lS "a") (A (lI 0) B))) (A (u (A (lS "f") (A (u (A (lI 42) B)) (A (lI 6) B)))) (A (u (A (lS "f") (A (u (A (lI 48) B)) (A (lI 17) B)))) B)))))))))))) D)
  D) (C (.f6 "j" (f "len" (A (v "nums") B))
  (C (x (m (v "uses") "append" (A (f "_law_use" (A (v "w") (A (b .Add (i (v "nums") (v "j")) (b .Mult (lI 97) (v "j"))) B))) B))) D)) (C (w ["use"] (b .Add (v "uses") (v "uses"))
  (C (q (o (A (y (f "_law_told" (A (v "w") (A (v "p") (A (v "use") B))))) (A (y (f "_law_all_same" (A (v "w") (A (v "p") B)))) B)))
  (C (r (.lit (.bool false))) D)
  D) D)) (C (r (.lit (.bool true))) D)))))))))))⟩
noncomputable def l8:List (String×Fn):=[
 ("KindTable.__init__",yn),
 ("KindTable.row",OW),
 ("KindTable.put",ym),
 ("inner_kinds",Oz),
 ("row_level",Oe),
 ("row_length",Of),
 ("check_kind_row",OG),
 ("check_named",OF),
 ("check_args",OH),
 ("may_stand",Oo),
 ("class_kind",OD),
 ("value_kind",N8),
 ("prim_kind",Og),
 ("array_kind",OJ),
 ("var_kind",N7),
 ("kind_sort",Ou),
 ("tid_of",N9),
 ("args_of",OK),
 ("is_value",Ox),
 ("is_var",Ow),
 ("PlainHeap.__init__",OT),
 ("PlainHeap.put",OS),
 ("PlainHeap.get",OU),
 ("PlainTables.__init__",ON),
 ("PlainTables.add",OQ),
 ("PlainTables.get",OO),
 ("PlainTables.count",OP),
 ("Pages.__init__",ux),
 ("Pages.sig",OV),
 ("TypeDef.__init__",q6),
 ("FieldDef.__init__",DV),
 ("Store.__init__",OM),
 ("need_foremost",Oj),
 ("field_row_of",OA),
 ("need_own_field",Oi),
 ("need_as_defined",Om),
 ("need_asm",Ol),
 ("floor_type",DU),
 ("need_row",Oh),
 ("make_coded",Ot),
 ("make_token",Oq),
 ("split_token",Oa),
 ("number_rows",uw),
 ("enum_fields",OC),
 ("row_name",Od),
 ("asm_ref_row",OI),
 ("type_token",oC),
 ("sig_tree",Ob),
 ("named_tree",q5),
 ("is_plain",Oy),
 ("kind_token",yk),
 ("kind_coded",Ov),
 ("field_blob",OB),
 ("add_member",OL),
 ("check_use",OE),
 ("field_token",yl),
 ("_law_kind",BL),
 ("_law_of",BK),
 ("_law_drawn",K8),
 ("_law_types",qq),
 ("_law_store",d7),
 ("_law_fail",K7),
 ("_law_asm",xh),
 ("_law_first",tH),
 ("_law_def",xg),
 ("_law_tree",BJ),
 ("_law_parent",xf),
 ("_law_field",nJ),
 ("_law_written",K5),
 ("_law_all_same",ji),
 ("_law_use",K6),
 ("_law_told",xe),
 ("law",fj)]
noncomputable def qW:List (String×String):=[
 ("KindTable","KindTable.__init__"),
 ("PlainHeap","PlainHeap.__init__"),
 ("PlainTables","PlainTables.__init__"),
 ("Pages","Pages.__init__"),
 ("TypeDef","TypeDef.__init__"),
 ("FieldDef","FieldDef.__init__"),
 ("Store","Store.__init__")]
end
end
section
open _root_.PySem _root_.PySem.Calls PyProof.Rows
open _root_.PySem.W (Frag codeIn codeRec_of)
def ub(fn:Fn)(a:Arguments)(body:List So)(sc:RE):Bool:=
 (a.posonlyargs.isEmpty&&a.vararg.isNone&&a.kwonlyargs.isEmpty&&a.kw_defaults.isEmpty&&a.kwarg.isNone&&a.defaults.isEmpty&&(a.args.map (·.arg)==fn.params.map QJ)&&decide (fn.params.eraseDups=fn.params))&&
 (sc.kind==.function&&!sc.isCoroutine&&!sc.isGenerator&&fn.params.all (λx=>fY sc (QJ x))&&sc.names.all (λp=>match p.2 with|.local|.cell|.globalImplicit=>true|_=>false))&&wJ fn.body sc body
noncomputable abbrev dv:List QS:=[.type "Exception",.type "BaseException",.type "object"]
noncomputable def oi:List Str:=["__getattribute__","__getattr__","__setattr__","code","at"]
noncomputable def x6(d:Data):Option (Array TA×Nat):=d.casesOn none (λ_=>none) (λ_ _=>none) (λes ep=>some (es,ep)) (λ_ _ _=>none) (λ_ _=>none) (λ_=>none) (λ_=>none) (λ_=>none) (λ_=>none) none
noncomputable def t7(d:Data):Option (UR):=d.casesOn none (λ_=>none) (λ_ _=>none) (λ_ _=>none) (λ_ _ _=>none) (λ_ _=>none) (λ_=>none) some (λ_=>none) (λ_=>none) none
noncomputable def DN(d:Data):Option (T9):=d.casesOn none (λ_=>none) (λ_ _=>none) (λ_ _=>none) (λ_ _ _=>none) (λ_ _=>none) (λ_=>none) (λ_=>none) some (λ_=>none) none
noncomputable def zO(d:Data):Option (Array QS×Nat):=d.casesOn none (λ_=>none) (λxs n=>some (xs,n)) (λ_ _=>none) (λ_ _ _=>none) (λ_ _=>none) (λ_=>none) (λ_=>none) (λ_=>none) (λ_=>none) none
noncomputable def jX(v:QS):Option Q5:=v.casesOn none none none (λ_=>none) (λ_ _=>none) (λ_ _=>none) (λ_ _=>none) (λ_ _=>none) (λ_=>none) (λ_=>none) some
noncomputable def tP(v:QS):Option Int:=v.casesOn none none none (λ_=>none) (λi _=>some i) (λ_ _=>none) (λ_ _=>none) (λ_ _=>none) (λ_=>none) (λ_=>none) (λ_=>none)
noncomputable def xn(v:QS):Option Str:=v.casesOn none none none (λ_=>none) (λ_ _=>none) (λ_ _=>none) (λi _=>some i) (λ_ _=>none) (λ_=>none) (λ_=>none) (λ_=>none)
noncomputable def BR(v:QS):Bool:=(xn v).isSome
noncomputable def yp(b:FuncBody):Option (List So):=b.casesOn some λ_=>none
def dB{α:Type}(p:α->Bool)(o:Option α):Bool:=o.rec false p
section
variable(K:Frag)
noncomputable def xZ(a:Q5):Option (Array TA×Nat):=(K.lookup a).bind λo=>x6 o.data
noncomputable def c9(a:Q5)(n:Str):Option QS:=(xZ K a).bind λp=>nsFind p.1 n
def nj(a:Q5):Bool:=dB (λp=>p.1.toList.all λe=>BR e.key) (xZ K a)
def jT(x:String):Option QS:=c9 K R8 (QJ x)
noncomputable def g9(x:String):Option Q5:=(jT K x).bind jX
noncomputable def xo(d:QI):Option Int:=d.casesOn none (λ_=>none) some (λ_=>none) (λ_=>none) (λ_=>none) (λ_=>none)
noncomputable def BU(d:QI):Option Str:=d.casesOn none (λ_=>none) (λ_=>none) some (λ_=>none) (λ_=>none) (λ_=>none)
def w6(v:QS)(d:QI):Bool:=dB (λi=>decide (xo d=some i)) (tP v)||dB (λi=>decide (BU d=some i)) (xn v)
noncomputable def tupK(v:QS):Option (List QS):=(jX v).bind λa=>(K.lookup a).bind λo=>if o.cls=.type "tuple" then(zO o.data).map (·.1.toList) else none
noncomputable def ze(d:QI):Option (List QI):=d.casesOn none (λ_=>none) (λ_=>none) (λ_=>none) (λ_=>none) some (λ_=>none)
def yH{α β:Type}(f:α->β->Bool)(l:List α):List β->Bool:=l.rec (λm=>m.isEmpty) λa _ r m=>m.rec false λb m _=>f a b&&r m
def z6(n:Nat):QS->QI->Bool:=n.rec w6 λ_ r v d=>w6 v d||dB (λl=>dB (λm=>yH r l m) (ze d)) (tupK K v)
end
noncomputable def jj(e:TA):Int:=(tP e.key).getD 0
def sd(K:Frag)(v:V)(u:QS):Bool:=v.rec (λd=>aP d&&z6 K 20 u d) (λa=>decide (u=.ref a)) false
def x4(K:Frag)(p:QI×V)(e:TA):Bool:=decide (xo p.1=some (jj e))&&sd K p.2 e.val&&(tP e.key).isSome&&(e.hash==hashInt (jj e))
def vy(K:Frag)(a:Q5)(l:List (QI×V)):Bool:=dB (λo=>(decide (o.cls=.type "dict")&&o.dict.isNone&&o.slots.isEmpty)&&decide (l.length<=100)&&dB (λp=>(p.2==l.length)&&yH (x4 K) l p.1.toList&&decide ((p.1.toList.map jj).Nodup)) (x6 o.data)) (K.lookup a)
noncomputable def iV:List (String×QS):=[("len",.builtin "len"),("chr",.builtin "chr"),("str",.type "str"),("tuple",.type "tuple"),("range",.type "range"),("enumerate",.type "enumerate"),("bytearray",.type "bytearray")]
def f9(l:List Char):Option (List Char×List Char):=l.rec none λa r i=>if a='.' then some ([],r) else i.map λp=>(a::p.1,p.2)
section
variable(K:Frag)
noncomputable def cZ(o:Obj)(i:Nat):Option QS:=(o.slots.toList[i]?).join
noncomputable def fh(C:Q5):Option (Obj×T9):=(K.lookup C).bind λo=>(DN o.data).map λcd=>(o,cd)
def lY(u:QS):Bool:=dB (λa=>dB (λo=>decide (o.cls=.type "function")&&(t7 o.data).isSome) (K.lookup a)) (jX u)
def te(c m:String):Option QS:=(g9 K c).bind λC=>(fh K C).bind λp=>(c9 K p.2.ns (QJ m)).bind λu=>if lY K u=true then some u else none
noncomputable def jL:List String:=qW.map (·.1)
def du(f:String):Option QS:=(f9 f.toList).rec ((iV.lookup f).rec ((jT K f).bind λu=>if(lY K u||jL.contains f)=true then some u else none) some) λp=>te K (VA p.1) (VA p.2)
noncomputable def pU(mro:List QS)(ab:Bool)(new:String)(p:Obj×T9):Bool:=decide (p.1.cls=.type "type")&&decide (p.2.mro=mro)&&p.2.hasDict&&(p.2.abstract==ab)&&!p.2.hasDel&&decide (p.1.slots=#[cZ p.1 0,cZ p.1 1,cZ p.1 2,cZ p.1 3,some (.builtin new),cZ p.1 5])
def NS(c:String):Bool:=c.toList.all (· !='.')&&(f9 c.toList).isNone&&(iV.lookup c).isNone&&dB (λC=>dB (λp=>pU [.ref C,.type "object"] false "object.__new__" p&&nj K p.2.ns&&(["__getattribute__","__getattr__","__setattr__"]++jM).all λx=>(c9 K p.2.ns (QJ x)).isNone) (fh K C)) (g9 K c)
noncomputable def Cz(u:QS):Option (Q5×UR×List So):=(jX u).bind λa=>(K.lookup a).bind λo=>(t7 o.data).bind λfd=>(yp fd.body).map λb=>(a,fd,b)
def Mi(p:String×Fn):Bool:=dB (λu=>dB (λq=>ub p.2 q.2.1.params q.2.2 q.2.1.scope&&decide p.2.params.Nodup&&decide (q.2.1.globals=R8)&&decide (q.2.1.builtins=T1)&&q.2.1.closure.isEmpty&&decide (q.2.1.defaults=.none)&&codeIn K q.2.1.code q.2.1.qualname&&decide (q.2.1.scope.names.map (·.1)).Nodup) (Cz K u)) (du K p.1)
def Kv(f:String):Bool:=(f9 f.toList).isNone&&((iV.lookup f).rec true λv=>(jT K f).isNone&&decide (Va (QJ f)=some v)&&!(QJ f==("__name__":Str)))&&(du K f).isSome
end
structure kR where
 a:Q5
 p:Obj×T9
 D:Q5
 q:Obj×T9
 fI:Q5
 oI:Obj
 fd:UR
def xA(x:String)(s:So):Bool:=cY (λl v=>a8 (λt=>eN (λo a _=>(a==QJ x)&&dO "self" o) t) l&&dO x v) s
def Cd(l:List So):Bool:=iq (λa b=>xA "code" a&&xA "at" b) l
section
variable(K:Frag)
noncomputable def qO:Option kR:=(g9 K "BadImage").bind λa=>(fh K a).bind λp=>((p.2.mro[1]?).bind jX).bind λD=>(fh K D).bind λq=>((c9 K q.2.ns "__init__").bind jX).bind λfI=>(K.lookup fI).bind λoI=>(t7 oI.data).map λfd=>⟨a,p,D,q,fI,oI,fd⟩
def C5(t:kR):Bool:=pU (.ref t.a::.ref t.D::dv) t.p.2.abstract "Exception.__new__" t.p&&nj K t.p.2.ns&&nj K t.q.2.ns&&(oi.all λn=>(c9 K t.p.2.ns n).isNone&&(c9 K t.q.2.ns n).isNone)&&(c9 K t.p.2.ns "__init__").isNone&&decide (t.oI.cls=.type "function")&&dB Cd (yp t.fd.body)
noncomputable def C4(t:kR):Bool:=(decide (t.fd.scope.kind=.function)&&!t.fd.scope.isCoroutine&&!t.fd.scope.isGenerator)&&(t.fd.scope.names.all λy=>!(y.2==.cell))&&(decide (t.fd.scope.names.lookup ("self":Str)=some .local)&&decide (t.fd.scope.names.lookup ("code":Str)=some .local)&&decide (t.fd.scope.names.lookup ("at":Str)=some .local))&&codeIn K t.fd.code t.fd.qualname
noncomputable def xY(fd:UR):Bool:=fd.params.posonlyargs.isEmpty&&fd.params.vararg.isNone&&fd.params.kwonlyargs.isEmpty&&fd.params.kwarg.isNone&&decide (fd.params.args.map (·.arg)=[("self":Str),"code","at"])&&decide (fd.defaults=.none)
end
noncomputable def Gm:List (List (Int×Int)):=[[(0,20),(1,9),(2,10),(3,11),(4,12),(5,13),(6,14),(7,15),(8,16),(9,17),(10,18),(11,19),(12,1),(13,4)],[(20,0),(9,1),(10,2),(11,3),(12,4),(13,5),(14,6),(15,7),(16,8),(17,9),(18,10),(19,11),(1,12),(4,13)],[(0,1),(1,2),(2,3),(3,4),(4,5),(5,6),(6,7),(7,8),(8,9),(9,10),(10,11),(11,24),(12,28),(13,14)]]
noncomputable def Gn:List (QI×V):=[(.int 0,.d (.tuple [.int 2,.tuple [.int 2,.int 1,.int 27]])),(.int 1,.d (.tuple [.int 2,.tuple [.int 4,.int 8,.int 23]])),(.int 2,.d (.tuple [.int 3,.tuple [.int 2,.int 1,.int (-1),.int 6,.int 27]])),(.int 3,.d (.tuple [.int 1,.tuple [.int 20,.int 23]])),(.int 4,.d (.tuple [.int 1,.tuple [.int 6,.int 10]])),(.int 5,.d (.tuple [.int 2,.tuple [.int 0,.int (-1),.int 35,.int 1]])),(.int 6,.d (.tuple [.int 1,.tuple [.int 2,.int 6]]))]
def i7(k:Nat):List (QI×V):=(Gm[k]?).rec Gn λl=>l.map λp=>(.int p.1,.d (.int p.2))
noncomputable def bJ(K:Frag)(k:Nat):Q5:=(g9 K ((["PRIM_TID","TID_PRIM","PRIM_ELEMENT","CODED"][k]?).getD "")).getD 0
noncomputable def LR(K:Frag):List (String×V):=[("PRIM_TID",.r (bJ K 0)),("TID_PRIM",.r (bJ K 1)),("PRIM_ELEMENT",.r (bJ K 2)),("CODED",.r (bJ K 3)),("_law_ASMS",.d (.tuple [.str (QJ "core"),.str (QJ "lib"),.str (QJ "app"),.str (QJ "ext")]))]
structure g0 K:Prop where
 top:nj K R8=true
 fn:l8.all (Mi K)=true
 look:oY.all (Kv K)=true
 met:uL.all (λm=>(du K m).isSome)=true
 NH:(consts.all λp=>dB (sd K (.d (.int p.2))) (jT K p.1))=true
 gv:((LR K).all λp=>dB (sd K p.2) (jT K p.1))=true
 tab:([0,1,2,3].all λk=>vy K (bJ K k) (i7 k)&&!(bJ K k==To))=true
 cA:decide ([bJ K 0,bJ K 1,bJ K 2,bJ K 3].Nodup)=true
 cls:jL.all (NS K)=true
 bN:(iV.all λp=>(f9 p.1.toList).isNone&&p.2.rec false false false (λ_=>false) (λ_ _=>false) (λ_ _=>false) (λ_ _=>false) (λ_ _=>false) (λ_=>true) (λ_=>true) λ_=>false)=true
 exc:dB (λt=>C5 K t&&C4 K t&&xY t.fd) (qO K)=true
end
section
open _root_.PySem _root_.PySem.Calls PyProof.Rows _root_.PySem.W
open _root_.PySem.Sem (wp)
theorem Nj{prog:RU}{w:Sz}{t:Sem aaC}{s:QT}{R:W6->QT->Prop}(hreg:s.asleep)
  (h:aU (model prog w) W8 t (λfin s'=>∃f,fin=.done f/\(R (.ok f) s'/\Zv s'.gens=false)) (λe s'=>R (.error e) s'/\Zv s'.gens=false) s):
  ∃n r s' s'',runN (denote Ud) prog w n s ⟨t,.builtin "claim.caller" {},default,[]⟩=.halted (WO r) s'/\
   schedN (denote Ud) prog w n (.single s ⟨t,.builtin "claim.caller" {},default,[]⟩)=.halted (WO r) s'/\s'.forget=s''.forget/\R r s'':=by
 obtain ⟨n,r,s₁,s₂,hs,hn,hfo,hR⟩:=wp_halts_full hreg
  (Uc _ _ t (λfin p' s' ⟨f,e,hf⟩=>by subst e;exact hf) (λ_ _ _ h'=>h') default s (h ⟨.builtin "claim.caller" {},none,none,[],none⟩ default caller_in (by decide+kernel) λ_ hq=>nomatch hq))
 exact ⟨n,r,s₂,s₁,hn,hs,hfo,hR⟩
theorem JV{α β γ δ ε:Sort _}{A:α->β->Prop}{B:α->β->γ->δ->ε->Prop}(a b)(h:A a b)(c d e)(k:B a b c d e):∃a b,A a b/\∃c d e,B a b c d e:=⟨a,b,h,c,d,e,k⟩
theorem O9{σ:Sort _}{P1 P2:σ->Prop}{T X Y:σ->σ->Prop}(h:∃s₀,P1 s₀/\P2 s₀/\∃s₁,T s₀ s₁/\X s₀ s₁)(k:∀s₀ s₁,T s₀ s₁->X s₀ s₁->Y s₀ s₁):∃s₀,P1 s₀/\P2 s₀/\∃s₁,T s₀ s₁/\Y s₀ s₁:=h.imp λs₀ h=>⟨h.1,h.2.1,h.2.2.imp λs₁ h=>⟨h.1,k s₀ s₁ h.1 h.2⟩⟩
theorem Ni{c:ClaimW}{s s₁ s' s'':QT}{args:List WData}{vs:List QS}{r:W6}{free:Q5->Prop}(h:c.Ends s args vs s₁ r s'')(e:s''.heap=s'.heap):(∃v,WO r=.done (.ret v)/\(∀cls,c.raises args cls=false)/\
      (∃d ds as bs,ReadsW c.records (Vb s.heap) s'.heap v d as/\ReadsAllW c.records (Vb s.heap) s'.heap vs ds bs/\c.post args d ds=true/\
       (c.unshared=true->as.Nodup/\(∀a∈as,s₁.heap.get? a=none)/\∀a∈as,a∉bs)/\
       (∀as₀,ReadsAllW c.records (Vb s.heap) s₁.heap vs args as₀->
        c.ident (as.map (whence s₁.heap as₀ (as++bs))) (bs.map (whence s₁.heap as₀ (as++bs)))=true))/\
      (∀i,c.same=some i->vs[i]?=some v)/\
      (∀b o,s₁.heap.get? b=some o->¬free b->(∀i∈c.mutates,vs[i]?=some (.ref b)->o.dict≠none)->
       (∀i∈c.within,∀v d as,vs[i]?=some v->ReadsW c.records (Vb s.heap) s₁.heap v d as->b∉as)->
       asItWas s₁.heap s'.heap b o)/\
      (∀i∈c.within,∀v d as,vs[i]?=some v->ReadsW c.records (Vb s.heap) s₁.heap v d as->∀b∈as,∀o,s₁.heap.get? b=some o->o.dict≠none->
       ∃o',s'.heap.get? b=some o'/\o'.cls=o.cls/\o'.dict=o.dict))\/
     (∃e ob cls,WO r=.uncaught (.ref e)/\s'.heap.get? e=some ob/\WG s.heap cls=some ob.cls/\c.raises args cls=true/\s₁.heap.get? e=none/\
      (∀b o,s₁.heap.get? b=some o->¬free b->asItWas s₁.heap s'.heap b o)):=
 e▸Or.imp (SY λv=>And.imp (QQ WO) (T2 (T2 (T2 (And.imp_left λz b o y _=>z b o y))))) (SY λ_=>SY λ_=>SY λ_=>And.imp (QQ WO) (T2 (T2 (T2 (T2 λz b o y _=>z b o y))))) h
theorem N6{c:ClaimW}{tree:List QS->Sem aaC}{w:Sz}{s:QT}{free:Q5->Prop}{gens:Prop}{kept:Rn->Prop}(hz:s.asleep)(hgens:s.gens=#[])
  (hspec:∀args,c.pre args=true->WData.layableAll args=true->∀ord:List TA->List TA,(∀l,(ord l).Perm l)->
   ∃vs s₁,layAllW c.records (Vb s.heap) w.params ord args s=some (vs,s₁)/\
    aU (model c.prog w) W8 (tree vs) (λfin s'=>∃f,fin=.done f/\(c.Ends s args vs s₁ (.ok f) s'/\s'.os=s.os/\AllBare s'.gens/\kept s'.heap))
     (λe s'=>c.Ends s args vs s₁ (.error e) s'/\s'.os=s.os/\AllBare s'.gens/\kept s'.heap) s₁):
  c.CallFrom (λvs=>⟨tree vs,.builtin "claim.caller" {},default,[]⟩) w free gens kept s:=
 λargs hpre hlay ord hord=>ao (hspec args hpre hlay ord hord) λvs s₁ z=>
  have hal:=layAllW_rest _ _ _ z.1
  jt (Nj (R:=λr s'=>c.Ends s args vs s₁ r s'/\s'.os=s.os/\kept s'.heap) (Shared.asleep_of_life hal.2.2.2 hz)
   (cB z.2 (λfin s'=>SY λf=>T2 λy=>⟨⟨y.1,y.2.1,y.2.2.2⟩,VG y.2.2.1⟩) λe s' y=>⟨⟨y.1,y.2.1,y.2.2.2⟩,VG y.2.2.1⟩)) λk r s' s'' y=>
  have F:=Shared.forget_eq y.2.2.1
  JV vs s₁ z.1 k _ s' ⟨y.2.1,Ni y.2.2.2.1 F.1.symm,λ_ i x hx=>aX (hgens▸hx),F.1.symm▸y.2.2.2.2.2,QQ (·.seen) ((runN_life _ _ _ y.1).trans hal.2.2.2),Shared.rest_eq (F.2.2.2.1.trans y.2.2.2.2.1)⟩
def Eg:Prop:=∀(w:Sz) prog K s₁(mg mb)(a l) xs is,g0 K->K.In s₁.heap->s₁.heap.Ns R8 mg->s₁.heap.Ns T1 mb->s₁.heap.NoLimit->(∀x:Str,x≠"__name__"->mb x=Va x)->s₁.heap.NoSeer->
 mg (QJ "law")=some (.ref a)->s₁.gens=#[]->s₁.heap.IsList l xs.toArray->YE xs is->is.length<=63->(∃o,s₁.heap.get? l=some o/\o.dict=none)->
 aU (model prog w) W8 (_root_.PySem.call (.ref a) [.ref l]) (λv s'=>v=.bool true/\(∀b o,s₁.heap.get? b=some o->s'.heap.get? b=some o)/\s'.os=s₁.os/\s'.gens=#[]) (λ_ _=>False) s₁
class rj:Prop where
 w:Eg
abbrev yK(_:rj)(q:RU)(loose:List Str)(XP:(Str->Option QS)->Rn->Prop)(YP:Sz->Rn->Prop)(r:RowW)(d:DefRec)(kwd:List (Str×QL))(run:QS->List QS->Sem QS):Prop:=
 ∀(w:Sz)(s₀ s₁)(mg mb),Ground q loose r.records XP w s₀ mg mb s₁.heap->YP w s₁.heap->∀(a:Q5) o(pm cd doc dV kV),s₁.heap.get? a=some o->
  o.data=.func {docDef d.name d.params d.body d.scope pm cd doc with defaults:=dV,kwdefaults:=kV}->s₁.heap.CodeRec cd d.name->Dflts mg s₁.heap d.params kwd dV kV->mg d.name=some (.ref a)->s₁.gens=#[]->
  ∀(args:List WData) vals as,r.claim.pre args=true->WData.layableAll args=true->ReadsAllW r.records (Vb s₀.heap) s₁.heap vals args as->WellAll w.params s₁.heap vals args->(∀a∈as,(a==To)=false)->
   aU (model r.prog w) W8 (run (.ref a) vals) (λv s'=>GoodWG r.claim (Vb s₀.heap) (WG s₀.heap) args s₁ (.ok (.ret v)) s')
    (λe s'=>GoodWG r.claim (Vb s₀.heap) (WG s₀.heap) args s₁ (.error e) s') s₁
abbrev R0:OpenRow:=Challenge.rw_xw0078_01.row
theorem K4{w:Sz}{s₀ s s₁ s':QT}{args:List WData}{vs:List QS}{as:List Q5}{r:W6}(hwr:(!R0.writes||R0.records.isEmpty)=true)(fr:frees R0.toRowW=true)(k6:R0.within.isEmpty=true)(hT:TopRan R0.prog w s₀ s)(hg:s.heap.isNs R8=true)
  (keeps:∀b o,s.heap.get? b=some o->s₁.heap.get? b=some o) (L:Laid R0.records w s s₁ args vs as) (g:GoodWG R0.toRowW.claim (Vb s.heap) (WG s.heap) args s₁ r s'):
  R0.toRowW.claim.Ends s args vs s₁ r s'/\s'.os=s.os/\AllBare s'.gens/\(R0.writes=true->namesKept R0.prog R0.keeps s.heap s'.heap/\∀x∈R0.records,∀a,Vb s.heap x.1=some a->recordClass s'.heap a x.1 (x.2.map (·.1))=true):=
 have F:=frees_parts fr;have z:=g.laid F.1 (Tz.mp k6) (ident_freeW F.2.1 F.2.2.1 F.2.2.2.1) L
 ⟨z.1,z.2.1,z.2.2,λq=>⟨namesKept_of hT hg R0.keeps keeps g.2.1.old,noTable hwr q⟩⟩
theorem LL{I:rj}{q:RU}{loose:List Str}{XP:(Str->Option QS)->Rn->Prop}{YP:Sz->Rn->Prop}{d:DefRec}{kwd:List (Str×QL)}{w:Sz}{s₀ s:QT}
  (hYk:∀w h h',YP w h->(∀b o,h.get? b=some o->h'.get? b=some o)->YP w h') (hXk:∀mg h h',XP mg h->(∀b o,h.get? b=some o->h'.get? b=some o)->XP mg h')
  (hdef:defOf q R0.name=some (d,kwd)) (hwr:(!R0.writes||R0.records.isEmpty)=true) (fr:frees R0.toRowW=true) (k6:R0.within.isEmpty=true) (call:yK I q loose XP YP R0.toRowW d kwd λf vs=>T3 f vs)
  (hT:TopRan R0.prog w s₀ s) (hz:s.asleep) (hgens:s.gens=#[]) (hg:s.heap.isNs R8=true) (G:Ground q loose R0.records XP w s (s.heap.nsMap R8) (s.heap.nsMap T1) s.heap) (y:YP w s.heap):
  R0.toRowW.claim.CallFrom (callStub R0.name) w (λb=>R0.writes=true/\madeByTheTop s₀ s b) (R0.writes=false) (λh'=>R0.writes=true->namesKept R0.prog R0.keeps s.heap h'/\∀x∈R0.records,∀a,Vb s.heap x.1=some a->recordClass h' a x.1 (x.2.map (·.1))=true) s:=
 N6 hz hgens λargs hpre hlay ord hord=>(R6.mp (layAllW_isSome G.has args R0.args s (pre_splitW hpre).1)).elim λ⟨vs,s₁⟩ hlaid=>
  have keeps:=layAllW_keeps _ _ _ hlaid;have hal:=layAllW_rest _ _ _ hlaid
  (reads_layAllW hord _ _ _ hlaid hlay s₁.heap (λ_ _ e=>e)).elim λas hr=>
  have L:Laid R0.records w s s₁ args vs as:=⟨⟨ord,hord,hlaid⟩,hr.1,hr.2.1,hr.2.2,keeps,hal.1.trans hgens,hal.2.2.1⟩;have G₁:=G.keeps hXk keeps
  cm (G₁.fn hdef) λa o pm cd doc z=>ao z λdV kV z=>
  have n:=λ{r s'} g=>K4 (r:=r) (s':=s') hwr fr k6 hT hg keeps L g
  ⟨vs,s₁,hlaid,bH (bM (wpAny_nsGet G₁.T.g (by
   refine aa z.1 ?_;exact bH (cB (call w s s₁ _ _ G₁ (hYk _ _ _ y keeps) a o pm cd doc dV kV z.2.1 z.2.2.1 z.2.2.2.1 z.2.2.2.2 (defOf_name hdef▸z.1) L.gens args vs as hpre hlay L.reads L.well (L.low G.low)) (λv s' g=>fv ⟨_,rfl,n g⟩) λe s' g=>n g))))⟩
theorem _root_.Mine.PySem.W.holds_open[I:rj]{q:RU}{loose:List Str}{Xt:QT->Bool}{XP:(Str->Option QS)->Rn->Prop}{α:Type}{Yf:QT->α}{Ya:Sz->α}{YP:Sz->Rn->Prop}{d:DefRec}{kwd:List (Str×QL)}{N:Nat}
  (left:LeftO Challenge.rw_xw0078_01.row.prog q loose Xt Yf Ya N) (hY:∀w s,Yf s=Ya w->YP w s.heap) (hYk:∀w h h',YP w h->(∀b o,h.get? b=some o->h'.get? b=some o)->YP w h')
  (hX:∀s,Xt s=true->XP (s.heap.nsMap R8) s.heap) (hXk:∀mg h h',XP mg h->(∀b o,h.get? b=some o->h'.get? b=some o)->XP mg h')
  (hdef:defOf q Challenge.rw_xw0078_01.row.name=some (d,kwd)) (hp:Challenge.rw_xw0078_01.row.prog.theDef Challenge.rw_xw0078_01.row.name=some (d.params,d.body,d.scope)) (hk:kwWritten? d.params.kwonlyargs d.params.kw_defaults=some kwd) (hRf:∀s,Xt s=true->RecFacts Challenge.rw_xw0078_01.row.records s.heap) (hwr:(!Challenge.rw_xw0078_01.row.writes||Challenge.rw_xw0078_01.row.records.isEmpty)=true)
  (k1:Challenge.rw_xw0078_01.row.wellSaid=true) (ok:(chainsOk q&&opensWell Challenge.rw_xw0078_01.row.prog&&(frees Challenge.rw_xw0078_01.row.toRowW&&Challenge.rw_xw0078_01.row.within.isEmpty))=true) (hb:Challenge.rw_xw0078_01.row.prog.bare) (hw:Challenge.rw_xw0078_01.row.toRowW.promised)
  (call:yK I q loose XP YP Challenge.rw_xw0078_01.row.toRowW d kwd λf vs=>T3 f vs):Challenge.rw_xw0078_01.row.Holds:=
 have ok:=Q8.mp ok;have h1:=Q8.mp ok.1;have h2:=Q8.mp ok.2
 ⟨k1,hw,⟨hb,h1.2,rfl⟩,hw.witness,λw=>⟨(left.behind hX h1.1 w).1,λs' hs'=>O9 ((left.behind (XP:=λmg h=>XP mg h/\RecFacts R0.records h) (λs hs=>⟨hX s hs,hRf s hs⟩) h1.1 w).2 s' hs') λs₀ s hT x=>
  have G00:=x.2.2.2.1;have G0:Ground q loose [] XP w s (s.heap.nsMap R8) (s.heap.nsMap T1) s.heap:=⟨G00.T,G00.B,G00.D,G00.TE,G00.TD,G00.W,G00.X.1,G00.cls,G00.has,G00.apart,G00.once,G00.K⟩
  ⟨λn hn=>(QW.mp hn:n=R0.name)▸pinned_of_view x.2.2.1 G0 hdef hp hk,G00.X.2.1,G00.X.2.2.1,LL hYk hXk hdef hwr h2.1 h2.2 call hT x.1 (Vt (Q6.mp x.2.1)) x.2.2.1 (G00.X.2.ground G0) (hY w s x.2.2.2.2)⟩⟩⟩
theorem LJ{R:WRecords}{t:WTm}{e:WCtx}(h:t.value R e=some (.bool true)):t.holds R e=true:=by unfold WTm.holds;exact aa h rfl
theorem IA(as ds):Challenge.rw_xw0078_01.row.claim.post as (WData.bool true) ds=true:=Q8.mpr ⟨rfl,LJ ((w_eq_bool (k:=true) (l:=true) (w_res rfl) w_lit).trans rfl)⟩
def LP(h:Rn)(v:QS)(d:WData):Prop:=d.casesOn True (λ_=>True) (λ_=>True) (λ_=>True) (λ_=>∀l,v=.ref l->∃o,h.get? l=some o/\o.dict=none) (λ_=>True) (λ_=>True) (λ_=>True) (λ_=>True) (λ_=>True) (λ_=>True) (λ_=>True) λ_ _=>True
theorem EM{P:Params}{h:Rn}{l:Q5}{x:List WData}(w:Well P h (.ref l) (.list x)):∃o,h.get? l=some o/\o.dict=none:=(Well.casesOn (motive_1:=λv d _=>LP h v d) w trivial (λ_=>trivial) (λ_ _=>trivial) (λ_ _=>trivial) (λ_ _=>trivial) (λ_ _=>trivial) (λ_=>trivial) (λg _ l e=>SV e▸⟨_,g,rfl⟩) (λ_ _=>trivial) (λ_ _=>trivial) (λ_ _ _ _=>trivial) (λ_ _ _ _=>trivial) (λ_ _ _ _=>trivial):LP h (.ref l) (.list x)) l rfl
theorem PF{P:Params}{cl:Str->Option Q5}{h:Rn}{vals as}{is:List Int}(hc:(WTm.not (.lt (.lit (.int 63)) (.len (.arg 0)))).holds [] {args:=[ofPy (.list (is.map .int))]}=true)
  (hrd:ReadsAllW [] cl h vals [ofPy (.list (is.map .int))] as) (hwl:WellAll P h vals [ofPy (.list (is.map .int))]):∃l xs is,vals=[.ref l]/\h.IsList l xs.toArray/\YE xs is/\is.length<=63/\∃o,h.get? l=some o/\o.dict=none:=
 jt (readsAllW_cons_inv hrd) λv vs a1 a2 r=>az (reads_list_items (reads_of_readsW _ r.2.2.1)) λa l b y=>
  have e:vals=[.ref a]:=r.1.trans (y.1▸(readsAllW_nil_inv r.2.2.2).1▸rfl);have n:=(SZ _).mp (condW_of hc (w_not (w_lt w_lit (w_len_list (w_arg rfl)))))
  ⟨a,l,is,e,y.2.2.1,(readsAll_intsAre y.2.2.2).1,QX (as:=is) RM▸ofPys_length (is.map RM)▸RZ.mp (Tf.mp (of_decide_eq_false n)),EM (wellAll_head (e▸hwl)).1⟩
theorem PG{P:Params}{cl:Str->Option Q5}{h:Rn}{args:List WData}{vals as}(hpre:Challenge.rw_xw0078_01.row.claim.pre args=true)(hlay:WData.layableAll args=true)(hrd:ReadsAllW Challenge.rw_xw0078_01.row.records cl h vals args as)(hwl:WellAll P h vals args):
  ∃l xs is,vals=[.ref l]/\h.IsList l xs.toArray/\YE xs is/\is.length<=63/\∃o,h.get? l=some o/\o.dict=none:=
 ao (hasAllW_cons (pre_splitW hpre).1) λd r z=>(open_plain (.list .int) (by decide) z.2.1 (layW_cons (z.1▸hlay)).1).elim λp y=>(has_list_int y.2.1).elim λis e=>
  have E:args=[ofPy (.list (is.map .int))]:=z.1.trans (y.1▸e▸(hasAllW_nil z.2.2)▸rfl)
  PF (E▸(holds_andW (pre_splitW hpre).2).1) (E▸hrd) (E▸hwl)
theorem EP{I:rj}{q:RU}{loose:List Str}{XP:(Str->Option QS)->Rn->Prop}{YP:Sz->Rn->Prop}{d:DefRec}{kwd:List (Str×QL)}
  (h:∀(w:Sz)(s₀ s₁)(mg mb),Ground q loose [] XP w s₀ mg mb s₁.heap->YP w s₁.heap->∀a:Q5,mg d.name=some (.ref a)->s₁.gens=#[]->
   ∀(l:Q5) xs is,s₁.heap.IsList l xs.toArray->YE xs is->is.length<=63->(∃o,s₁.heap.get? l=some o/\o.dict=none)->
   aU (model Challenge.rw_xw0078_01.row.prog w) W8 (T3 (.ref a) [.ref l]) (λv s'=>v=.bool true/\(∀b o,s₁.heap.get? b=some o->s'.heap.get? b=some o)/\s'.os=s₁.os/\s'.gens=#[]) (λ_ _=>False) s₁):
  yK I q loose XP YP Challenge.rw_xw0078_01.row.toRowW d kwd λf vs=>T3 f vs:=
 λw s₀ s₁ mg mb G Y a o pm cd doc dV kV ho hd hcd hD hmg hg args vals as hpre hlay hrd hwl hlo=>az (PG hpre hlay hrd hwl) λl xs is z=>z.1▸cB (h w s₀ s₁ mg mb G Y a hmg hg l xs is z.2.1 z.2.2.1 z.2.2.2.1 z.2.2.2.2) (λv s' y=>y.1▸
  ⟨.inl ⟨.bool true,.bool true,[],rfl,λ_=>rfl,.bool true,IA _ _,λ_=>⟨SA,λ_ h=>nomatch h⟩⟩,OldK.of_keep y.2.1,y.2.2.1,.of_eq y.2.2.2⟩) λ_ _ x=>x.elim
end
end Mine.Internal
namespace Mine
section
open _root_.PySem _root_.PySem.W PyProof.Rows
open Internal
namespace head
theorem tw16894197260953374720:True:=⟨⟩
theorem tw16072502192527678464:True:=⟨⟩
theorem tw7732209734871044160:True:=⟨⟩
theorem tw15898109809663626304:True:=⟨⟩
theorem tw2554682012703037696:True:=⟨⟩
theorem tw18123143868385100064:True:=⟨⟩
theorem tw1985537357303476512:True:=⟨⟩
theorem tw4473611206160876864:True:=⟨⟩
theorem tw11628534518673281344:True:=⟨⟩
theorem tw5944575059761466720:True:=⟨⟩
theorem tw7035425020737665376:True:=⟨⟩
theorem tw13294958713779813728:True:=⟨⟩
theorem tw15037083628117588352:True:=⟨⟩
theorem tw7450023128482652576:True:=⟨⟩
theorem tw6202090305015876224:True:=⟨⟩
theorem tw16172288393029767808:True:=⟨⟩
theorem tw9074772780463953568:True:=⟨⟩
theorem tw2428695696106030784:True:=⟨⟩
theorem tw9380374249521086144:True:=⟨⟩
theorem tw12460202669355646752:True:=⟨⟩
theorem tw5467695095851852608:True:=⟨⟩
theorem tw3496171461512900480:True:=⟨⟩
theorem tw7417405269818204032:True:=⟨⟩
theorem tw10242447542790323104:True:=⟨⟩
theorem tw18332285231265401824:True:=⟨⟩
theorem tw1992862871153497056:True:=⟨⟩
theorem tw17525636777796739105:True:=⟨⟩
theorem tw14527164170590304321:True:=⟨⟩
theorem tw9592777112578238593:True:=⟨⟩
theorem tw3615648651819825313:True:=⟨⟩
theorem tw4160124254940468481:True:=⟨⟩
theorem tw4764554697811233:True:=⟨⟩
theorem tw16545597347906280737:True:=⟨⟩
theorem tw14916135506677271873:True:=⟨⟩
theorem tw1929634836878124385:True:=⟨⟩
theorem tw5792407227767346561:True:=⟨⟩
theorem tw3690969761935527329:True:=⟨⟩
theorem tw5865467396996320769:True:=⟨⟩
theorem tw3088210815446039105:True:=⟨⟩
theorem tw3500380475922496097:True:=⟨⟩
theorem tw1499353310998574721:True:=⟨⟩
theorem tw15064752311394979489:True:=⟨⟩
theorem tw12727220549172885185:True:=⟨⟩
theorem tw4419558321834357505:True:=⟨⟩
theorem tw7277520189549225825:True:=⟨⟩
theorem tw3270352941656771521:True:=⟨⟩
theorem tw4992075536606663714:True:=⟨⟩
theorem tw8402328212356670530:True:=⟨⟩
theorem tw2525317073905713282:True:=⟨⟩
theorem tw12472887615940459650:True:=⟨⟩
theorem tw14676189674455941282:True:=⟨⟩
theorem tw11692735721529064706:True:=⟨⟩
theorem tw3696042808614700290:True:=⟨⟩
theorem tw8390636374581242146:True:=⟨⟩
theorem tw8101760021730824546:True:=⟨⟩
theorem tw16172356507618199906:True:=⟨⟩
theorem tw7658410731251134818:True:=⟨⟩
theorem tw15253846138512369154:True:=⟨⟩
theorem tw5019597260055213698:True:=⟨⟩
theorem tw12841863872788715202:True:=⟨⟩
theorem tw11820730986300896962:True:=⟨⟩
theorem tw7802898811600756450:True:=⟨⟩
theorem tw3160712208675142370:True:=⟨⟩
theorem tw7523532297153676066:True:=⟨⟩
theorem tw1056085985882870562:True:=⟨⟩
theorem tw6369041477666114370:True:=⟨⟩
theorem tw5187041380464763778:True:=⟨⟩
theorem tw12478146576626367362:True:=⟨⟩
theorem tw3083302935323014018:True:=⟨⟩
theorem tw18051680202136193954:True:=⟨⟩
theorem tw10746725682022337571:True:=⟨⟩
theorem tw2355103038987944067:True:=⟨⟩
theorem tw2728595385866086531:True:=⟨⟩
theorem tw13086575352542018947:True:=⟨⟩
theorem tw7616389157142160771:True:=⟨⟩
theorem tw12763952150808568291:True:=⟨⟩
theorem tw869964249740702211:True:=⟨⟩
theorem tw14597329475937083939:True:=⟨⟩
theorem tw15894371620910866019:True:=⟨⟩
theorem tw851385035628625539:True:=⟨⟩
theorem tw9658139154387788515:True:=⟨⟩
theorem tw1917425121527220963:True:=⟨⟩
theorem tw8541356943393881859:True:=⟨⟩
theorem tw17577399041416155939:True:=⟨⟩
theorem tw3665506230870052707:True:=⟨⟩
theorem tw17905491414393134947:True:=⟨⟩
theorem tw13664066127859960707:True:=⟨⟩
theorem tw2694075680205673411:True:=⟨⟩
theorem tw976808484645153763:True:=⟨⟩
theorem tw10900948863051656163:True:=⟨⟩
theorem tw11081218982966106116:True:=⟨⟩
theorem tw15410735652082386980:True:=⟨⟩
theorem tw11180365069992382532:True:=⟨⟩
theorem tw4607607821588926596:True:=⟨⟩
theorem tw9083612298779875492:True:=⟨⟩
theorem tw7498250532897285284:True:=⟨⟩
theorem tw14999265807660949796:True:=⟨⟩
theorem tw3368030927266983236:True:=⟨⟩
theorem tw17015032458148788900:True:=⟨⟩
theorem tw16922147877168347812:True:=⟨⟩
theorem tw6489421142724028100:True:=⟨⟩
theorem tw9495540839478616804:True:=⟨⟩
theorem tw6490296386705211140:True:=⟨⟩
theorem tw10059252607514160932:True:=⟨⟩
theorem tw15506723302920939300:True:=⟨⟩
theorem tw1503407388533364548:True:=⟨⟩
theorem tw6846866878297920324:True:=⟨⟩
theorem tw13986843968525588388:True:=⟨⟩
theorem tw15895748673760503845:True:=⟨⟩
theorem tw7096138990903361605:True:=⟨⟩
theorem tw17850378814381688901:True:=⟨⟩
theorem tw6161856959107265637:True:=⟨⟩
theorem tw6536181036136497285:True:=⟨⟩
theorem tw8216834362191484069:True:=⟨⟩
theorem tw15796087645652482245:True:=⟨⟩
theorem tw4196546014268931301:True:=⟨⟩
theorem tw16576625349610184965:True:=⟨⟩
theorem tw1522823579158628613:True:=⟨⟩
theorem tw10786079294511566085:True:=⟨⟩
theorem tw13955511503576765797:True:=⟨⟩
theorem tw4839655697589452165:True:=⟨⟩
theorem tw3103639331685909893:True:=⟨⟩
theorem tw1211024037004892549:True:=⟨⟩
theorem tw10265929125382437317:True:=⟨⟩
theorem tw7404141018258913797:True:=⟨⟩
theorem tw4311042196063409733:True:=⟨⟩
theorem tw8603420104599213669:True:=⟨⟩
theorem tw14149427978524627653:True:=⟨⟩
theorem tw7661765248129044261:True:=⟨⟩
theorem tw12182850187970735909:True:=⟨⟩
theorem tw3980653432952411973:True:=⟨⟩
theorem tw8187629637223713605:True:=⟨⟩
theorem tw13906610036690215845:True:=⟨⟩
theorem tw12344544660321961925:True:=⟨⟩
theorem tw14349913743752837093:True:=⟨⟩
theorem tw13508044439285423174:True:=⟨⟩
theorem tw10573961123116132518:True:=⟨⟩
theorem tw9515422150858430662:True:=⟨⟩
theorem tw1748456618969930982:True:=⟨⟩
theorem tw5906749814970224870:True:=⟨⟩
theorem tw17988201657351507238:True:=⟨⟩
theorem tw6640010369347007910:True:=⟨⟩
theorem tw1457377512435260902:True:=⟨⟩
theorem tw4017301010375394790:True:=⟨⟩
theorem tw1909714482019496454:True:=⟨⟩
theorem tw1689142752476645926:True:=⟨⟩
theorem tw5764021196749891206:True:=⟨⟩
theorem tw10521553517811329670:True:=⟨⟩
theorem tw18364922244981856966:True:=⟨⟩
theorem tw18384547517478447814:True:=⟨⟩
theorem tw13295082483830516422:True:=⟨⟩
theorem tw13276723143375012678:True:=⟨⟩
theorem tw4053978428183960486:True:=⟨⟩
theorem tw9101448428047585222:True:=⟨⟩
theorem tw16984083398119652359:True:=⟨⟩
theorem tw15840312062823119879:True:=⟨⟩
theorem tw6212921109956642855:True:=⟨⟩
theorem tw2260579728952749127:True:=⟨⟩
theorem tw11105056867450500199:True:=⟨⟩
theorem tw15951998825049700455:True:=⟨⟩
theorem tw5629256929840616583:True:=⟨⟩
theorem tw1062042127530464391:True:=⟨⟩
theorem tw18007968972792079559:True:=⟨⟩
theorem tw2529948359932261575:True:=⟨⟩
theorem tw5987550445186205895:True:=⟨⟩
theorem tw8185714761375850791:True:=⟨⟩
theorem tw11582096051123008839:True:=⟨⟩
theorem tw7680146299302783591:True:=⟨⟩
theorem tw1319983325249436295:True:=⟨⟩
theorem tw10988817232074504935:True:=⟨⟩
theorem tw8409189969818401543:True:=⟨⟩
theorem tw7994106446794305319:True:=⟨⟩
theorem tw5973763720392745831:True:=⟨⟩
theorem tw262713603470380999:True:=⟨⟩
theorem tw8408249889716310983:True:=⟨⟩
theorem tw6265338273532641288:True:=⟨⟩
theorem tw14699756766385990792:True:=⟨⟩
theorem tw13353151263460963528:True:=⟨⟩
theorem tw2591067827882107080:True:=⟨⟩
theorem tw10366927770000222440:True:=⟨⟩
theorem tw12870424476946447624:True:=⟨⟩
theorem tw3264716943610762504:True:=⟨⟩
theorem tw2066564036433440168:True:=⟨⟩
theorem tw11308087075614649832:True:=⟨⟩
theorem tw3304075619188804072:True:=⟨⟩
theorem tw14631306762972528136:True:=⟨⟩
theorem tw14946772226789246504:True:=⟨⟩
theorem tw14943480678444902952:True:=⟨⟩
theorem tw16441004959143088680:True:=⟨⟩
theorem tw17698105195316432488:True:=⟨⟩
theorem tw2437478716016495240:True:=⟨⟩
theorem tw7876399200375917224:True:=⟨⟩
theorem tw8169693465737517768:True:=⟨⟩
theorem tw1276956409769668328:True:=⟨⟩
theorem tw13932022402069264104:True:=⟨⟩
theorem tw10951786044768298760:True:=⟨⟩
theorem tw17535552090658664200:True:=⟨⟩
theorem tw17411354535832351560:True:=⟨⟩
theorem tw11097941207591946120:True:=⟨⟩
theorem tw13801937863458859944:True:=⟨⟩
theorem tw14637134836413734856:True:=⟨⟩
theorem tw2864405669816312776:True:=⟨⟩
theorem tw8549075639274686408:True:=⟨⟩
theorem tw2825341998796452840:True:=⟨⟩
theorem tw5788964047882338313:True:=⟨⟩
theorem tw780477332936465449:True:=⟨⟩
theorem tw14956371261235936329:True:=⟨⟩
theorem tw11005904730967762025:True:=⟨⟩
theorem tw10018764681926925449:True:=⟨⟩
theorem tw7833285031277912329:True:=⟨⟩
theorem tw11862927689305589065:True:=⟨⟩
theorem tw7829458321764655465:True:=⟨⟩
theorem tw17539234302018041193:True:=⟨⟩
theorem tw18176413224385145225:True:=⟨⟩
theorem tw15647610678857825673:True:=⟨⟩
theorem tw5855423684407361001:True:=⟨⟩
theorem tw5331137831679937033:True:=⟨⟩
theorem tw820421773197932041:True:=⟨⟩
theorem tw2340069552987342377:True:=⟨⟩
theorem tw4554283584077286953:True:=⟨⟩
theorem tw9646481798937456297:True:=⟨⟩
theorem tw11305582741114486441:True:=⟨⟩
theorem tw323482635240074057:True:=⟨⟩
theorem tw315434073420411817:True:=⟨⟩
theorem tw17608190574486352970:True:=⟨⟩
theorem tw380116879960591498:True:=⟨⟩
theorem tw5096742575497195690:True:=⟨⟩
theorem tw9103479521544129834:True:=⟨⟩
theorem tw17212568112599259466:True:=⟨⟩
theorem tw10706776884845955466:True:=⟨⟩
theorem tw17836260108008149386:True:=⟨⟩
theorem tw6211381574409162282:True:=⟨⟩
theorem tw8182079617134344778:True:=⟨⟩
theorem tw5996384718915585738:True:=⟨⟩
theorem tw17453365369857097546:True:=⟨⟩
theorem tw6684978435548883818:True:=⟨⟩
theorem tw17844492200522320778:True:=⟨⟩
theorem tw3190665364439775114:True:=⟨⟩
theorem tw5487235932777146282:True:=⟨⟩
theorem tw6968674436765558698:True:=⟨⟩
theorem tw14843749296085226474:True:=⟨⟩
theorem tw12696795546194904107:True:=⟨⟩
theorem tw6099028997845504075:True:=⟨⟩
theorem tw2753283235347674219:True:=⟨⟩
theorem tw6200565938003754123:True:=⟨⟩
theorem tw9625377726130185387:True:=⟨⟩
theorem tw6379358179555706155:True:=⟨⟩
theorem tw1608297297296620843:True:=⟨⟩
theorem tw5927865893512547691:True:=⟨⟩
theorem tw14679116673082234219:True:=⟨⟩
theorem tw15305915472762889579:True:=⟨⟩
theorem tw13743032657059413451:True:=⟨⟩
theorem tw15468718075485040107:True:=⟨⟩
theorem tw8796753266530204203:True:=⟨⟩
theorem tw13108355545841440363:True:=⟨⟩
theorem tw16406983249328947883:True:=⟨⟩
theorem tw6388477656530123435:True:=⟨⟩
theorem tw16769997242578385675:True:=⟨⟩
theorem tw1172538174109094731:True:=⟨⟩
theorem tw5479459121986351116:True:=⟨⟩
theorem tw10270352894671993868:True:=⟨⟩
theorem tw9464831228461672588:True:=⟨⟩
theorem tw7575806435727305068:True:=⟨⟩
theorem tw12287978374625458572:True:=⟨⟩
theorem tw17854896373637125580:True:=⟨⟩
theorem tw14699528089545365996:True:=⟨⟩
theorem tw17789423225533864492:True:=⟨⟩
theorem tw14479216186099313196:True:=⟨⟩
theorem tw48543519692965452:True:=⟨⟩
theorem tw3790771472595898956:True:=⟨⟩
theorem tw9082462177598256812:True:=⟨⟩
theorem tw3547240966391284428:True:=⟨⟩
theorem tw7090939061502383884:True:=⟨⟩
theorem tw6891450509433485068:True:=⟨⟩
theorem tw6110071263904590700:True:=⟨⟩
theorem tw8786867419617076140:True:=⟨⟩
theorem tw9325057278558614444:True:=⟨⟩
theorem tw3991279037241028524:True:=⟨⟩
theorem tw10205530081349824492:True:=⟨⟩
theorem tw6121141971511671821:True:=⟨⟩
theorem tw14432977821161478157:True:=⟨⟩
theorem tw15148963937461231693:True:=⟨⟩
theorem tw7805308653706644653:True:=⟨⟩
theorem tw8812732774380208333:True:=⟨⟩
theorem tw5540966977426339021:True:=⟨⟩
theorem tw12330954535739239725:True:=⟨⟩
theorem tw6082570043172070797:True:=⟨⟩
theorem tw8402214883040486957:True:=⟨⟩
theorem tw14139617269561922093:True:=⟨⟩
theorem tw16572314662081343053:True:=⟨⟩
theorem tw12601080634535202701:True:=⟨⟩
theorem tw6237802210402583469:True:=⟨⟩
theorem tw7112724798510323661:True:=⟨⟩
theorem tw13600378441667735501:True:=⟨⟩
theorem tw17332727794074296334:True:=⟨⟩
theorem tw12328230846540189838:True:=⟨⟩
theorem tw11426403942048686318:True:=⟨⟩
theorem tw18416563613846182222:True:=⟨⟩
theorem tw12359489953124434286:True:=⟨⟩
theorem tw12865059321931465230:True:=⟨⟩
theorem tw16474958459275807246:True:=⟨⟩
theorem tw1495726902847802894:True:=⟨⟩
theorem tw12362083183470981646:True:=⟨⟩
theorem tw17093656651364094606:True:=⟨⟩
theorem tw8866670633112419022:True:=⟨⟩
theorem tw16128420640991077102:True:=⟨⟩
theorem tw10431609616501453582:True:=⟨⟩
theorem tw709382114072422158:True:=⟨⟩
theorem tw6053997905714604814:True:=⟨⟩
theorem tw12773685731770592110:True:=⟨⟩
theorem tw13180129090757240718:True:=⟨⟩
theorem tw3089916443595474862:True:=⟨⟩
theorem tw14234965402570480558:True:=⟨⟩
theorem tw1398043889541792783:True:=⟨⟩
theorem tw739537129135343663:True:=⟨⟩
theorem tw16640130746408290383:True:=⟨⟩
theorem tw8586521899292070991:True:=⟨⟩
theorem tw8715499118904818895:True:=⟨⟩
theorem tw1620002657737552111:True:=⟨⟩
theorem tw18165431152234640623:True:=⟨⟩
theorem tw3794523003379204399:True:=⟨⟩
theorem tw12310735299239354703:True:=⟨⟩
theorem tw14643560169476415855:True:=⟨⟩
theorem tw4975070653579243887:True:=⟨⟩
theorem tw17821319399108415887:True:=⟨⟩
theorem tw4746297304354101679:True:=⟨⟩
theorem tw15181326774706428367:True:=⟨⟩
theorem tw5515381820778694223:True:=⟨⟩
theorem tw14364637388885140079:True:=⟨⟩
theorem tw5617373736292572815:True:=⟨⟩
theorem tw13357441389134331599:True:=⟨⟩
theorem tw11715283913529211631:True:=⟨⟩
theorem tw9196398404247428943:True:=⟨⟩
theorem tw12032222614953749359:True:=⟨⟩
theorem tw16997897962222511:True:=⟨⟩
theorem tw4433315090154635215:True:=⟨⟩
theorem tw12740806245664736207:True:=⟨⟩
theorem tw5651425540991249520:True:=⟨⟩
theorem tw12741294794224977040:True:=⟨⟩
theorem tw3185377453876500656:True:=⟨⟩
theorem tw14492117785962260688:True:=⟨⟩
theorem tw16782820856776367440:True:=⟨⟩
theorem tw7313386461004707312:True:=⟨⟩
theorem tw5737951250597237232:True:=⟨⟩
theorem tw2661039320868540944:True:=⟨⟩
theorem tw3453547403478019728:True:=⟨⟩
theorem tw13246386896891170512:True:=⟨⟩
theorem tw14969385696402013904:True:=⟨⟩
theorem tw17646911460466567920:True:=⟨⟩
theorem tw2545145822199252752:True:=⟨⟩
theorem tw12212823987433534256:True:=⟨⟩
theorem tw17275705279478898512:True:=⟨⟩
theorem tw14788773977795034992:True:=⟨⟩
theorem tw4691952243595246448:True:=⟨⟩
theorem tw17101390910214460304:True:=⟨⟩
theorem tw10872037306656784433:True:=⟨⟩
theorem tw1643771367246577777:True:=⟨⟩
theorem tw11770459041652445329:True:=⟨⟩
theorem tw17197444120159719569:True:=⟨⟩
theorem tw5319049981483164881:True:=⟨⟩
theorem tw12822298378996975857:True:=⟨⟩
theorem tw7734086686654790897:True:=⟨⟩
theorem tw9987851973559822609:True:=⟨⟩
theorem tw17173245716831642929:True:=⟨⟩
theorem tw11124748197601291601:True:=⟨⟩
theorem tw3928599903575798129:True:=⟨⟩
theorem tw5111174896325423537:True:=⟨⟩
theorem tw8264559056461403633:True:=⟨⟩
theorem tw12095829319087573521:True:=⟨⟩
theorem tw12949380547846470161:True:=⟨⟩
theorem tw3451093201888169649:True:=⟨⟩
theorem tw16966009324859112401:True:=⟨⟩
theorem tw11925700103697007601:True:=⟨⟩
theorem tw13478637309914159250:True:=⟨⟩
theorem tw17008234436448823602:True:=⟨⟩
theorem tw6199841768885715282:True:=⟨⟩
theorem tw9202431907968578930:True:=⟨⟩
theorem tw14531177953140590962:True:=⟨⟩
theorem tw11485113708198979986:True:=⟨⟩
theorem tw1687793838685487538:True:=⟨⟩
theorem tw13585267454733459922:True:=⟨⟩
theorem tw8451290768687142514:True:=⟨⟩
theorem tw3821945547825155762:True:=⟨⟩
theorem tw10748227973586771634:True:=⟨⟩
theorem tw1714602735852981970:True:=⟨⟩
theorem tw2441957057352720082:True:=⟨⟩
theorem tw15091486752826498866:True:=⟨⟩
theorem tw10730805705081004914:True:=⟨⟩
theorem tw12892129938458570674:True:=⟨⟩
theorem tw17265401458761052179:True:=⟨⟩
theorem tw3512634313551410195:True:=⟨⟩
theorem tw9145527808636388435:True:=⟨⟩
theorem tw14909605222495392915:True:=⟨⟩
theorem tw7148437315225170067:True:=⟨⟩
theorem tw11434997419882176723:True:=⟨⟩
theorem tw3944913497352057107:True:=⟨⟩
theorem tw5104563664521345299:True:=⟨⟩
theorem tw4709128311485490483:True:=⟨⟩
theorem tw14643959010103036307:True:=⟨⟩
theorem tw8671685427711848851:True:=⟨⟩
theorem tw6737735255597943219:True:=⟨⟩
theorem tw16278871845796110771:True:=⟨⟩
theorem tw9702098958229961203:True:=⟨⟩
theorem tw6174258528820157971:True:=⟨⟩
theorem tw6298033893332097587:True:=⟨⟩
theorem tw708152393587867187:True:=⟨⟩
theorem tw2797894973233656403:True:=⟨⟩
theorem tw13689084217373910675:True:=⟨⟩
theorem tw13213268828098156179:True:=⟨⟩
theorem tw4857777746444614323:True:=⟨⟩
theorem tw6402496994288996404:True:=⟨⟩
theorem tw7270002223443293236:True:=⟨⟩
theorem tw15656768269340197940:True:=⟨⟩
theorem tw5797013207949663412:True:=⟨⟩
theorem tw12398312691204496596:True:=⟨⟩
theorem tw6871339299614917876:True:=⟨⟩
theorem tw6426539377367359892:True:=⟨⟩
theorem tw6474009502463322548:True:=⟨⟩
theorem tw17958272820484234708:True:=⟨⟩
theorem tw8569104457590258164:True:=⟨⟩
theorem tw3715144110773694964:True:=⟨⟩
theorem tw13637325136056909300:True:=⟨⟩
theorem tw8412703570448423476:True:=⟨⟩
theorem tw2907111362388958804:True:=⟨⟩
theorem tw17002534310236347988:True:=⟨⟩
theorem tw1937370526825066196:True:=⟨⟩
theorem tw2400818531096893172:True:=⟨⟩
theorem tw15895551434495452948:True:=⟨⟩
theorem tw1832916270232011604:True:=⟨⟩
theorem tw3986194592780655508:True:=⟨⟩
theorem tw5874639182527098836:True:=⟨⟩
theorem tw13335025841360890868:True:=⟨⟩
theorem tw12364624919760631829:True:=⟨⟩
theorem tw6684681932595197013:True:=⟨⟩
theorem tw6085824867444503733:True:=⟨⟩
theorem tw5725584637647431893:True:=⟨⟩
theorem tw2994366008111725845:True:=⟨⟩
theorem tw6513311132303258965:True:=⟨⟩
theorem tw4976181008148175253:True:=⟨⟩
theorem tw5141578139466067413:True:=⟨⟩
theorem tw12074249297620881909:True:=⟨⟩
theorem tw18433677622606106133:True:=⟨⟩
theorem tw1224924573807776437:True:=⟨⟩
theorem tw4885112425497105109:True:=⟨⟩
theorem tw5438144065070405397:True:=⟨⟩
theorem tw12147184966966947637:True:=⟨⟩
theorem tw9608377800256291669:True:=⟨⟩
theorem tw5501060405047882677:True:=⟨⟩
theorem tw4972248218790579157:True:=⟨⟩
theorem tw17568111066901205973:True:=⟨⟩
theorem tw5508695066786827253:True:=⟨⟩
theorem tw9716329373054682134:True:=⟨⟩
theorem tw11484797826999851062:True:=⟨⟩
theorem tw17194126546080390198:True:=⟨⟩
theorem tw9767149119325585590:True:=⟨⟩
theorem tw9107825763807709430:True:=⟨⟩
theorem tw10865165270600546614:True:=⟨⟩
theorem tw5612995960945425718:True:=⟨⟩
theorem tw17552560543380974038:True:=⟨⟩
theorem tw12352672977532951062:True:=⟨⟩
theorem tw12851702773856589430:True:=⟨⟩
theorem tw11427066125472700054:True:=⟨⟩
theorem tw17014734716931888790:True:=⟨⟩
theorem tw14112051064653734678:True:=⟨⟩
theorem tw15785421084128741142:True:=⟨⟩
theorem tw14842460003800876886:True:=⟨⟩
theorem tw2413573451304230806:True:=⟨⟩
theorem tw12205659690895024086:True:=⟨⟩
theorem tw604627371996746742:True:=⟨⟩
theorem tw2172669909848549399:True:=⟨⟩
theorem tw17188972718952451159:True:=⟨⟩
theorem tw11010576012040048727:True:=⟨⟩
theorem tw6247268493268985975:True:=⟨⟩
theorem tw1315816938146588887:True:=⟨⟩
theorem tw7287109101882759415:True:=⟨⟩
theorem tw12858780395421280599:True:=⟨⟩
theorem tw9065935926736091543:True:=⟨⟩
theorem tw12903917746401883607:True:=⟨⟩
theorem tw11338825007792423415:True:=⟨⟩
theorem tw9449176361245260279:True:=⟨⟩
theorem tw13379354915994877463:True:=⟨⟩
theorem tw6844782571114980887:True:=⟨⟩
theorem tw497287684792784471:True:=⟨⟩
theorem tw12214093580764582487:True:=⟨⟩
theorem tw4163069186122357367:True:=⟨⟩
theorem tw1939405473400901271:True:=⟨⟩
theorem tw11290360913936777911:True:=⟨⟩
theorem tw9827913525700040407:True:=⟨⟩
theorem tw7960053054240918295:True:=⟨⟩
theorem tw15112835437128306455:True:=⟨⟩
theorem tw13137911371727378231:True:=⟨⟩
theorem tw8627200689577751383:True:=⟨⟩
theorem tw8874674299285249911:True:=⟨⟩
theorem tw9984397402777080727:True:=⟨⟩
theorem tw15510365090734361527:True:=⟨⟩
theorem tw7704315382344345624:True:=⟨⟩
theorem tw6507506987150044280:True:=⟨⟩
theorem tw4101205626330787960:True:=⟨⟩
theorem tw5353729903917744248:True:=⟨⟩
theorem tw15798066900824788120:True:=⟨⟩
theorem tw14615432700455777464:True:=⟨⟩
theorem tw14195316510222423288:True:=⟨⟩
theorem tw9325123708862168440:True:=⟨⟩
theorem tw8035625575855466936:True:=⟨⟩
theorem tw10736139440505347576:True:=⟨⟩
theorem tw15296082917334920728:True:=⟨⟩
theorem tw12955356496681433688:True:=⟨⟩
theorem tw1212124681294104184:True:=⟨⟩
theorem tw13199516396595161752:True:=⟨⟩
theorem tw9353324838224930552:True:=⟨⟩
theorem tw15841401105113185080:True:=⟨⟩
theorem tw17464823870196871000:True:=⟨⟩
theorem tw17362218986543327160:True:=⟨⟩
theorem tw15666658371737129944:True:=⟨⟩
theorem tw15039987702171664376:True:=⟨⟩
theorem tw649443455394278489:True:=⟨⟩
theorem tw6207834228037699737:True:=⟨⟩
theorem tw7712916153251135833:True:=⟨⟩
theorem tw6587087628758450585:True:=⟨⟩
theorem tw6079359036626576793:True:=⟨⟩
theorem tw17444863063712431705:True:=⟨⟩
theorem tw9368406320212774489:True:=⟨⟩
theorem tw17782148633632673465:True:=⟨⟩
theorem tw6763335052953634553:True:=⟨⟩
theorem tw9407594320385231609:True:=⟨⟩
theorem tw12611893724949602041:True:=⟨⟩
theorem tw11821203517306503961:True:=⟨⟩
theorem tw5274623360512300857:True:=⟨⟩
theorem tw13381877923881390905:True:=⟨⟩
theorem tw10948677003083999065:True:=⟨⟩
theorem tw5599997604879368025:True:=⟨⟩
theorem tw3290047583113660281:True:=⟨⟩
theorem tw15735840784391694233:True:=⟨⟩
theorem tw9213911765573242809:True:=⟨⟩
theorem tw3556061257289618393:True:=⟨⟩
theorem tw14744981736328886265:True:=⟨⟩
theorem tw9214367901419015226:True:=⟨⟩
theorem tw15204471325056678010:True:=⟨⟩
theorem tw18260194641540637818:True:=⟨⟩
theorem tw8337448324364255386:True:=⟨⟩
theorem tw5723944856813171866:True:=⟨⟩
theorem tw1102905817137899706:True:=⟨⟩
theorem tw2237326684586592538:True:=⟨⟩
theorem tw5092371620264689978:True:=⟨⟩
theorem tw17826015225549371706:True:=⟨⟩
theorem tw4273228799998304602:True:=⟨⟩
theorem tw3688799982635324794:True:=⟨⟩
theorem tw15326552575505426906:True:=⟨⟩
theorem tw2681166955253090778:True:=⟨⟩
theorem tw12775505166333009402:True:=⟨⟩
theorem tw10333954764705244698:True:=⟨⟩
theorem tw9186546921256032858:True:=⟨⟩
theorem tw14061139507663348314:True:=⟨⟩
theorem tw13198292447841614426:True:=⟨⟩
theorem tw4023466491090337370:True:=⟨⟩
theorem tw5401097623525119610:True:=⟨⟩
theorem tw8476099583838051002:True:=⟨⟩
theorem tw12207028300977255130:True:=⟨⟩
theorem tw7906546307943345882:True:=⟨⟩
theorem tw1852205218256702202:True:=⟨⟩
theorem tw3869590956505411354:True:=⟨⟩
theorem tw12201952087667049370:True:=⟨⟩
theorem tw9777900189565919194:True:=⟨⟩
theorem tw742351954350328859:True:=⟨⟩
theorem tw1858156416291392539:True:=⟨⟩
theorem tw4387028780061031483:True:=⟨⟩
theorem tw5726752434678909019:True:=⟨⟩
theorem tw6100774026682323163:True:=⟨⟩
theorem tw8535708456716222715:True:=⟨⟩
theorem tw8912104118211102971:True:=⟨⟩
theorem tw3973953319845086491:True:=⟨⟩
theorem tw13227620805987009915:True:=⟨⟩
theorem tw9978949632667528635:True:=⟨⟩
theorem tw10840385229135970747:True:=⟨⟩
theorem tw3715584954343283195:True:=⟨⟩
theorem tw3616486834168423931:True:=⟨⟩
theorem tw12571670794047424027:True:=⟨⟩
theorem tw12987040726578829979:True:=⟨⟩
theorem tw930087139818521243:True:=⟨⟩
theorem tw1626232751844553403:True:=⟨⟩
theorem tw466721876749952763:True:=⟨⟩
theorem tw1618804561499322139:True:=⟨⟩
theorem tw1919001801439425371:True:=⟨⟩
theorem tw10898857373019930491:True:=⟨⟩
theorem tw2203363585012173787:True:=⟨⟩
theorem tw9142320679590124636:True:=⟨⟩
theorem tw11052631288978436188:True:=⟨⟩
theorem tw14882813523228863612:True:=⟨⟩
theorem tw573967197379146972:True:=⟨⟩
theorem tw7688317290187622652:True:=⟨⟩
theorem tw693309671712327132:True:=⟨⟩
theorem tw12219374706104166876:True:=⟨⟩
theorem tw6272251169252508156:True:=⟨⟩
theorem tw9162278640276766204:True:=⟨⟩
theorem tw2973143901146584636:True:=⟨⟩
theorem tw10467814448475477596:True:=⟨⟩
theorem tw1728724042893426364:True:=⟨⟩
theorem tw8299393411229908732:True:=⟨⟩
theorem tw10062970787820224252:True:=⟨⟩
theorem tw2581250870941146908:True:=⟨⟩
theorem tw10875119458065257276:True:=⟨⟩
theorem tw16031315777459398524:True:=⟨⟩
theorem tw5346772772824661884:True:=⟨⟩
theorem tw2014290360899714077:True:=⟨⟩
theorem tw7494366503370351645:True:=⟨⟩
theorem tw13988103294471073821:True:=⟨⟩
theorem tw5038994553942263901:True:=⟨⟩
theorem tw5363715690607933:True:=⟨⟩
theorem tw11714945338242495837:True:=⟨⟩
theorem tw9280153536138602973:True:=⟨⟩
theorem tw7253898381062576733:True:=⟨⟩
theorem tw17142359554024780413:True:=⟨⟩
theorem tw13510609219080548989:True:=⟨⟩
theorem tw7119846925741900413:True:=⟨⟩
theorem tw16800043278716471037:True:=⟨⟩
theorem tw1858285994304674589:True:=⟨⟩
theorem tw10987702880554017565:True:=⟨⟩
theorem tw15967466079928408925:True:=⟨⟩
theorem tw733406405333840765:True:=⟨⟩
theorem tw10812213935944405949:True:=⟨⟩
theorem tw16903022960794457021:True:=⟨⟩
theorem tw6772502638888315869:True:=⟨⟩
theorem tw4528443807372415038:True:=⟨⟩
theorem tw17854890406432584798:True:=⟨⟩
theorem tw2491421050496283774:True:=⟨⟩
theorem tw17243387458012846398:True:=⟨⟩
theorem tw3651205649096709438:True:=⟨⟩
theorem tw8895791426145780158:True:=⟨⟩
theorem tw7758381527925395934:True:=⟨⟩
theorem tw4543076655600059902:True:=⟨⟩
theorem tw15604011560834605598:True:=⟨⟩
theorem tw3368474557548986910:True:=⟨⟩
theorem tw45052839361067614:True:=⟨⟩
theorem tw14205479233844494046:True:=⟨⟩
theorem tw4154363929692500862:True:=⟨⟩
theorem tw11063524718261073790:True:=⟨⟩
theorem tw17700853532424174462:True:=⟨⟩
theorem tw3547030090768783262:True:=⟨⟩
theorem tw3062044705579621278:True:=⟨⟩
theorem tw10510622979536455646:True:=⟨⟩
theorem tw6857060684267632606:True:=⟨⟩
theorem tw11194998557105285118:True:=⟨⟩
theorem tw13078646160514809887:True:=⟨⟩
theorem tw4381510469713062047:True:=⟨⟩
theorem tw14417885227837004991:True:=⟨⟩
theorem tw8997269238129315039:True:=⟨⟩
theorem tw9114333099845857663:True:=⟨⟩
theorem tw8758324158161630591:True:=⟨⟩
theorem tw4277651752456152607:True:=⟨⟩
theorem tw10261356005730403935:True:=⟨⟩
theorem tw10079960370226730655:True:=⟨⟩
theorem tw4932745802714450591:True:=⟨⟩
theorem tw3749026756887285471:True:=⟨⟩
theorem tw10519217271611395807:True:=⟨⟩
theorem tw15794997505209512671:True:=⟨⟩
theorem tw533756555076263647:True:=⟨⟩
theorem tw10070411193226618655:True:=⟨⟩
theorem tw8497721794823489343:True:=⟨⟩
theorem tw174166394780034911:True:=⟨⟩
theorem tw8678205799600410495:True:=⟨⟩
theorem tw14720509044617813951:True:=⟨⟩
theorem tw10005452208157733855:True:=⟨⟩
theorem tw6750126573049424857:True:=⟨⟩
end head
set_option maxHeartbeats 8000000 in
theorem head(I:rj):PySem.Challenge.rw_xw0078_01.Holds:=by
 w_on
 o_law
 k_head
 (case hw=>w_witness2)
 all_goals (
  refine EP λw s₀ s₁ mg mb G Y a ha hg l xs is hl hI h63 hd=>?_
  exact I.w w _ _ s₁ mg mb a l xs is ⟨
   by kernel_rfl,
   by kernel_rfl,
   by kernel_rfl,
   by kernel_rfl,
   by kernel_rfl,
   by kernel_rfl,
   by kernel_rfl,
   by kernel_rfl,
   by kernel_rfl,
   by kernel_rfl,
   by kernel_rfl⟩
   (kIn_of Y) G.T.g G.T.b G.T.nolimit G.T.builtins (G.T.seer (by decide+kernel)) ha hg hl hI h63 hd)
end
end Mine
namespace Mine.Internal
section
open _root_.PySem _root_.PySem.Calls PyProof.Rows
open scoped Classical
section
variable{h h':Rn}{v u:QS}{d:QI}{ds:List QI}{vs:List QS}{as:List Q5}{a:Q5}{us:Array QS}{xs:List QI}
def yN(h:Rn)(v:QS)(d:QI):Prop:=d.casesOn (v=.none) (λb=>v=.bool b) (λi=>∃t,v=.int i t) (λx=>∃t,v=.str x t) (λ_=>False) (λxs=>∃a us,v=.ref a/\h.IsTuple a us/\Sn h us.toList xs []) λ_=>False
theorem lB(r:UN h v d as):as=[]->yN h v d:=@Reads.casesOn h (λv d as _=>as=[]->yN h v d) v d as r (λ_=>rfl) (λ_ _=>rfl) (λ_ t _=>⟨t,rfl⟩) (λ_ t _=>⟨t,rfl⟩) (λ_ _ _ _ e=>absurd e (Te _ _)) (λ{a _ us n _ _} h1 h2 h3 h4 e=>⟨a,us,rfl,⟨_,h1,h2,n,h3⟩,e▸h4⟩) λ_ _ _ _ _ e=>absurd e (Te _ _)
theorem ak.rd{d:QI}(r:ak h (.d d) v):yN h v d:=lB r.2 rfl
def Ez(h:Rn)(d:QI)(v:QS):Prop:=v.casesOn (d=.none) False False (λb=>d=.bool b) (λi _=>d=.int i) (λ_ _=>False) (λx _=>d=.str x) (λ_ _=>False) (λ_=>False) (λ_=>False) λa=>∃us xs,d=.tuple xs/\h.IsTuple a us/\Sn h us.toList xs []
theorem q7(r:UN h v d as):as=[]->Ez h d v:=@Reads.casesOn h (λv d as _=>as=[]->Ez h d v) v d as r (λ_=>rfl) (λ_ _=>rfl) (λ_ _ _=>rfl) (λ_ _ _=>rfl) (λ_ _ _ _ e=>absurd e (Te _ _)) (λ{_ _ us n xs _} h1 h2 h3 h4 e=>⟨us,xs,rfl,⟨_,h1,h2,n,h3⟩,e▸h4⟩) λ_ _ _ _ _ e=>absurd e (Te _ _)
theorem FJ(t:h.IsTuple a us)(r:Sn h us.toList xs []):UN h (.ref a) (.tuple xs) []:=t.elim λ_ y=>y.2.2.elim λ_ z=>.tuple y.1 y.2.1 z r
def EA(h:Rn)(ds:List QI)(vs:List QS):Prop:=vs.casesOn (ds=[]) λu us=>∃e es,ds=e::es/\UN h u e []/\Sn h us es []
theorem mz(r:Sn h vs ds as):as=[]->EA h ds vs:=@ReadsAll.casesOn h (λvs ds as _=>as=[]->EA h ds vs) vs ds as r (λ_=>rfl) λ{_ _ d ds _ _} r1 r2 e=>⟨d,ds,rfl,(eY e).1▸r1,(eY e).2▸r2⟩
theorem Hq{vs':List QS}{ds':List QI}(q:Sn h vs' ds' [])(r:Sn h vs ds as):as=[]->Sn h (vs++vs') (ds++ds') []:=
 VX (motive_1:=λ_ _ _ _=>True) trivial (λ_=>trivial) (λ_ _=>trivial) (λ_ _=>trivial) (λ_ _ _ _ _=>trivial) (λ_ _ _ _ _=>trivial) (λ_ _ _ _ _ _ _=>trivial)
  (λ_=>q) (λr1 _ _ i e=>.cons (as:=[]) ((eY e).1▸r1) (i (eY e).2)) r
theorem fV(r:Sn h vs ds as):vs.length=ds.length:=VX (motive_1:=λ_ _ _ _=>True) trivial (λ_=>trivial) (λ_ _=>trivial) (λ_ _=>trivial) (λ_ _ _ _ _=>trivial) (λ_ _ _ _ _=>trivial) (λ_ _ _ _ _ _ _=>trivial) rfl (λ_ _ _ i=>QQ TX i) r
theorem IsTuple.one{us':Array QS}(t:h.IsTuple a us)(t':h.IsTuple a us'):us=us':=t.elim λ_ y=>y.2.2.elim λ_ z=>t'.elim λ_ y'=>y'.2.2.elim λ_ z'=>(Data.seq.inj (z.symm.trans ((QK (y.1.symm.trans y'.1))▸z'))).1
theorem Ht(r:UN h v d as):as=[]->∀d',hO d=true->UN h v d' []->d=d':=
 Reads.rec (motive_2:=λvs ds as _=>as=[]->∀ds',hK ds=true->Sn h vs ds' []->ds=ds')
  (λ_ _ _ q=>(q7 q rfl).symm) (λ_ _ _ _ q=>(q7 q rfl).symm) (λ_ _ _ _ _ q=>(q7 q rfl).symm) (λ_ _ _ _ _ q=>(q7 q rfl).symm) (λ_ _ _ _ _ _ _ p=>ff p)
  (λh1 h2 h3 _ ih e _ p q=>(q7 q rfl).elim λ_ y=>y.elim λ_ y=>y.1▸QQ RC (ih e _ (ae p).2 (IsTuple.one y.2.1 ⟨_,h1,h2,_,h3⟩▸y.2.2))) (λ_ _ _ _ _ _ _ _ _ p=>ff p)
  (λ_ _ _ q=>(mz q rfl).symm) (λ_ _ i1 i2 e _ p q=>(mz q rfl).elim λ_ y=>y.elim λ_ y=>y.1▸(i1 (eY e).1 _ (ae p).1 y.2.1▸i2 (eY e).2 _ (ae p).2 y.2.2▸rfl)) r
end
mutual
theorem iK:∀d:QI,hO d=true->d.canLay0=true
 |.none,_=>rfl
 |.bool _,_=>rfl
 |.int _,_=>rfl
 |.str _,h=>h
 |.tuple xs,h=>(uv xs (ae h).2:)
 |.list _,h=>ff h
 |.dict _,h=>ff h
theorem uv:∀ds:List QI,hK ds=true->YF ds=true
 |[],_=>rfl
 |d::ds,h=>Q8.mpr ⟨iK d (ae h).1,uv ds (ae h).2⟩
end
noncomputable def dQ(f:List QI->Bool)(d:QI):Bool:=d.casesOn false (λ_=>false) (λ_=>true) (λ_=>true) (λ_=>false) f λ_=>false
noncomputable def qs(n:Nat):List QI->Bool:=n.rec (λ_=>false) λ_ f xs=>xs.all (dQ f)
abbrev nK(n:Nat)(d:QI):Bool:=dQ (qs n) d
noncomputable def fM(w:Sz)(f:List QI->Int)(d:QI):Int:=d.casesOn 0 (λ_=>0) hashInt (hashStr w) (λ_=>0) f λ_=>0
noncomputable def Cn(w:Sz)(n:Nat):List QI->Int:=n.rec (λ_=>0) λ_ f xs=>reduceHash (Sk (xs.map (fM w f)))
noncomputable def iH(f:List QI->Nat)(d:QI):Nat:=d.casesOn 1 (λ_=>1) (λ_=>1) (λ_=>1) (λ_=>1) f λ_=>1
noncomputable def Dl(n:Nat):List QI->Nat:=n.rec (λ_=>1) λ_ f xs=>(xs.map (iH f)).sum+1
theorem bd{α:Type}[BEq α][LawfulBEq α]{a b:α}{p:Prop}[Decidable p](h:a=b↔p):(a==b)=decide p:=Bool.eq_iff_iff.mpr (Q6.trans (h.trans decide_eq_true_iff.symm))
theorem C6{f:List QI->Bool}(ih:∀x y,dQ f x=true->dQ f y=true->Rk x y=decide (x=y)):∀(xs ys:List QI),xs.all (dQ f)=true->ys.all (dQ f)=true->US xs ys=decide (xs=ys)
 |[],[],_,_=>by simp [US]
 |[],_::_,_,_=>by simp [US]
 |_::_,[],_,_=>by simp [US]
 |x::xs,y::ys,p,q=>by
  (rewrite [US];refine aa (ih x y (ae p).1 (ae q).1) (aa (C6 ih xs ys (ae p).2 (ae q).2) ?_);rewrite [←UW])
  exact decide_eq_decide.mpr (List.cons_eq_cons.symm)
theorem tQ n:∀x y,nK n x=true->nK n y=true->Rk x y=decide (x=y):=
 have key:∀(f:List QI->Bool),(∀xs ys,f xs=true->f ys=true->US xs ys=decide (xs=ys))->∀x y,dQ f x=true->dQ f y=true->Rk x y=decide (x=y):=λf hf x y p q=>by
  cases x with
  |int i=>cases y with
   |int j=>rewrite [Rk];exact bd ⟨λe=>e▸rfl,λe=>by injection e⟩
   |str _=>rewrite [Rk];exact (Rm (λe=>SQ e)).symm
   |tuple _=>rewrite [Rk];exact (Rm (λe=>SQ e)).symm
   |_=>exact ff q
  |str i=>cases y with
   |str j=>rewrite [Rk];exact bd ⟨λe=>e▸rfl,λe=>by injection e⟩
   |int _=>rewrite [Rk];exact (Rm (λe=>SQ e)).symm
   |tuple _=>rewrite [Rk];exact (Rm (λe=>SQ e)).symm
   |_=>exact ff q
  |tuple xs=>cases y with
   |tuple ys=>(rewrite [Rk];refine aa (hf xs ys p q) ?_);exact decide_eq_decide.mpr ⟨λe=>e▸rfl,λe=>by injection e⟩
   |int _=>rewrite [Rk];exact (Rm (λe=>SQ e)).symm
   |str _=>rewrite [Rk];exact (Rm (λe=>SQ e)).symm
   |_=>exact ff q
  |_=>exact ff p
 n.rec (key _ λ_ _ h _=>ff h) λ_ ih=>key _ λxs ys p q=>C6 ih xs ys p q
section
variable{prog:RU}{w:Sz}
def rA(prog:RU)(w:Sz)(n:Nat)(d:QI)(k:Int)(m:Nat):Prop:=∀(A:Rg) E s v Q,A.units+n<cLine->UN s.heap v d []->
 Q k {s with toks:=s.toks+m}->wpAny (model prog w) A (pyHash v) Q E s
theorem Cm f g p{n:Nat}{d:QI}(hk:dQ p d=true)(hf:∀xs,d=.tuple xs->rA prog w n d (f xs) (g xs)):rA prog w n d (fM w f d) (iH g d):=by
 cases d with
 |int i=>exact λA E s v Q _ r h=>(lB r rfl).elim λt e=>e▸wpAny_pyHash_int h
 |str x=>exact λA E s v Q _ r h=>(lB r rfl).elim λt e=>e▸wpAny_pyHash_str h
 |tuple xs=>exact hf xs rfl
 |_=>exact ff hk
def uX(w:Sz)(f:List QI->Int)(g:List QI->Nat)(xs:List QI)(s:QT)(rest:List QS)(b:Array Int)(s':QT):Prop:=∃done left,xs=done++left/\Sn s.heap rest left []/\b.toList=done.map (fM w f)/\s'={s with toks:=s.toks+(done.map (iH g)).sum}
theorem uX.more{f:List QI->Int}{g:List QI->Nat}{xs done ds:List QI}{d:QI}{s:QT}{rest:List QS}{b:Array Int}(e:xs=done++d::ds)(r:Sn s.heap rest ds [])(hb:b.toList=done.map (fM w f)):
  uX w f g xs s rest (b.push (fM w f d)) {s with toks:=s.toks+(done.map (iH g)).sum+iH g d}:=⟨done++[d],ds,by simp [e],r,by simp [hb],by simp [SO]⟩
theorem LM{n:Nat}{f:List QI->Int}{g:List QI->Nat}{p:List QI->Bool}(ih:∀d,dQ p d=true->rA prog w n d (fM w f d) (iH g d)){xs:List QI}(hk:xs.all (dQ p)=true):
  rA prog w (n+1) (.tuple xs) (reduceHash (Sk (xs.map (fM w f)))) ((xs.map (iH g)).sum+1):=by
 intro A E s v Q hu r h;refine ao (lB r rfl) λa items y=>?_
 refine y.1▸?_;have hT:=y.2.1.typeIs;refine QM (wpAny_cRoomFor_or (.inr (by lia)) (QM (Ta hT Vc.lookup ?_)));refine aa (QP (by rw [Y3];exact SD)) ?_;refine QM (Ta hT Vc.lookup ?_);refine QM (wpAny_callSpecialIfBoundUnlessNone?_slot hT Vc (Se Vc hT F.entry_tuple_hash ?_ (F.args_tuple_hash_1 _)));refine (?_:wpAny _ _ (V4 (.ref a)>>=_) _ _ s);refine y.2.1.elim λo ho=>ho.2.2.elim λm hd=>QM (wpAny_tupleItemsOf ho.1 hd (QM ?_));refine a9 Yh ?_;refine Y4 _ (uX w f g xs s) _ (λx rest b s' z=>?_) (λb s' z=>?_) _ _ ⟨[],xs,rfl,y.2.2,rfl,rfl⟩
 ·refine ao z λdone left z=>ao (mz z.2.1 rfl) λd ds u=>z.2.2.2▸QM (ih d (Rp.mp hk d (z.1▸RN _ (u.1▸.head _))) A.in1 E {s with toks:=s.toks+(done.map (iH g)).sum} x _ (show A.units+1+n<cLine by lia) u.2.1 ?_)
  exact QV (uX.more (u.1▸z.1) u.2.2 z.2.2.1)
 ·refine ao z λdone left z=>?_
  have e:=z.1.trans ((mz z.2.1 rfl)▸SI done);refine (?_:wpAny _ _ (retInt (Sk b.toList)) _ _ _);refine aa z.2.2.1 (aa z.2.2.2 (a9 e ?_));refine wpAny_ret_mkInt ?_;unfold reduceHash at h;refine (?_:wpAny _ _ (if(decide (-(2:Int)^63<=Sk (xs.map (fM w f)))&&decide (Sk (xs.map (fM w f))<2^63))=true then _ else _) Q E _);generalize (decide (-(2:Int)^63<=Sk (xs.map (fM w f)))&&decide (Sk (xs.map (fM w f))<2^63))=b at h⊢
  cases b with
  |true=>exact QV h
  |false=>exact QM (Uz (QV h))
theorem LN n:∀d,nK n d=true->rA prog w n d (fM w (Cn w n) d) (iH (Dl n) d):=n.rec (λ_ hk=>Cm _ _ _ hk λ_ e=>ff (e▸hk:)) λ_ ih _ hk=>Cm _ _ _ hk λ_ e=>e▸LM (λd q A E s v Q u=>ih d q A E s v Q u) (e▸hk:)
end
section
variable{prog:RU}{w:Sz}
def rl(prog:RU)(w:Sz)(n:Nat)(d:QI):Prop:=∀(A:Rg) E s v Q,UN s.heap v d []->Q true s->wpAny (model prog w) A (eqIsQuiet n v) Q E s
theorem Ac{n:Nat} p{d:QI}(hk:dQ p d=true)(hf:∀xs,d=.tuple xs->rl prog w n d):rl prog w n d:=by
 cases d with
 |int i=>exact λA E s v Q r h=>(lB r rfl).elim λt e=>e▸WA (YG n rfl) h
 |str x=>exact λA E s v Q r h=>(lB r rfl).elim λt e=>e▸WA (YG n rfl) h
 |tuple xs=>exact hf xs rfl
 |_=>exact ff hk
theorem Hv{n:Nat}{p:List QI->Bool}(ih:∀d,dQ p d=true->rl prog w n d){xs:List QI}(hk:xs.all (dQ p)=true):rl prog w (n+1) (.tuple xs):=by
 intro A E s v Q r h;refine ao (lB r rfl) λa items y=>?_
 refine y.1▸?_;have hT:=y.2.1.typeIs;unfold eqIsQuiet;refine QM (Ta hT F.slot_tuple_eq.lookup ?_);refine QM (WQ hT isSubtype_tuple_tuple ?_);refine Zw rfl ?_;refine y.2.1.elim λo ho=>ho.2.2.elim λm hd=>QM (Xw ho.1 hd (QM ?_));refine a9 Yh ?_;refine Y4 _ (λrest r s'=>r.1=none/\s'=s/\∃left,Sn s.heap rest left []/\left.all (dQ p)=true) _ (λv rest r s' z=>?_) (λr s' z=>?_) _ _ ⟨rfl,rfl,xs,y.2.2,hk⟩
 ·obtain ⟨_,rfl,z⟩:=z
  refine z.elim λleft u=>ao (mz u.1 rfl) λd ds t=>?_;have k2:=ae (t.1▸u.2:);refine QM (ih d k2.1 A E _ v _ t.2.1 ?_);refine Zw rfl ?_;exact QV ⟨rfl,rfl,ds,t.2.2,k2.2⟩
 ·obtain ⟨r1,r2⟩:=r
  obtain ⟨rfl,rfl,_⟩:=z;exact QV h
theorem Hw n:∀d,nK n d=true->rl prog w (n+6) d:=n.rec (λ_ hk=>Ac _ hk λ_ e=>ff (e▸hk:)) λ_ ih _ hk=>Ac _ hk λ_ e=>e▸Hv ih (e▸hk:)
theorem d0.dict{o:Obj}{es:Array TA}{ep:Nat}(h:o.data=.dict es ep):d0 o:=λ_ ⟨_,_,e⟩=>Vu (h.symm.trans e)
theorem ax.dict{h h':Rn}{d:Q5}{o:Obj}{es:Array TA}{ep:Nat}(ho:h.get? d=some o)(hd:o.data=.dict es ep)(hs:Sr d h h'):ax h h':=λa o' e k=>⟨o'.slots,(hs.2 a λq=>k (QK ((q▸ho).symm.trans e)▸d0.dict hd)).trans e⟩
structure oQ h k a:Prop where
 key:nK 2 k=true
 ok:aP k=true
 rd:UN h (.ref a) k []
noncomputable def NC prog w:HeapKind prog w QI where
 is:=oQ
 hash:=fM w (Cn w 2)
 draws:=iH (Dl 2)
 room:=λA=>A.units+40<cLine
 inj:=λx y=>Ht x.rd rfl _ (eM x.ok) y.rd
 keeps:=λx ho hd hs=>⟨x.key,x.ok,pL (.dict ho hd hs) x.rd rfl (eM x.ok)⟩
 pyHash:=λhu x h=>LN 2 _ x.key _ _ _ _ _ (by lia) x.rd h
 eqBool:=λ{A E s x y a b Q} hu k1 k2 h=>SeqAt.eqBoolOverData prog w A E s _ _ x y _ _ _ k1.rd k2.rd (iK _ (eM k1.ok)) (iK _ (eM k2.ok)) (by have:=hW k1.ok;lia) (tQ 2 x y k1.key k2.key▸h)
 quiet:=λx h=>Hw 2 _ x.key _ _ _ _ _ x.rd h
theorem oQ.mono{h h':Rn}(k:ax h h'){d:QI}{a:Q5}(x:oQ h d a):oQ h' d a:=⟨x.key,x.ok,pL k x.rd rfl (eM x.ok)⟩
end
def iT(p:RU)(w:Sz)(h:Rn)(es:Array TA)(ep:Nat):Nat->List (QI×V)->Prop
 |0,l=>l=[]/\es=#[]/\ep=0
 |1,l=>ep=l.length/\∃kvs,KeysOf (YH p w) es/\Pairs (YH p w) es.toList kvs/\(kvs.map (·.1)).Nodup/\ai (λp q=>p.1=.int q.1/\ak h p.2 q.2) l kvs
 |2,l=>∃kvs,KeysOf (strKind p w) es/\Pairs (strKind p w) es.toList kvs/\(kvs.map (·.1)).Nodup/\ai (λp q=>p.1=.str q.1/\ak h p.2 q.2) l kvs
 |_+3,l=>∃kvs,es.toList=kvs.map (entryOfKey (NC p w))/\(∀x∈kvs,oQ h x.1 x.2.1)/\(kvs.map (·.1)).Nodup/\ai (λp q=>p.1=q.1/\ak h p.2 q.2.2) l kvs
def fo(h:Rn)(l:List (String×V))(m:Str->Option QS):Prop:=∀x v,l.lookup x=some v->∃u,m (QJ x)=some u/\ak h v u
def yP(h:Rn)(v:Option V)(u:Option QS):Prop:=∀w,v=some w->∃y,u=some y/\ak h w y
def rn(p:RU)(w:Sz)(C:String->Option Q5)(h:Rn)(o:Obj):Cell->Prop
 |.cH=>True
 |.lst l=>o.cls=.type "list"/\o.dict=none/\∃xs n,o.data=.seq xs n/\ai (ak h) l xs.toList
 |.aj t l=>o.ExactDict/\l.length<=ah/\∃es ep,o.data=.dict es ep/\iT p w h es ep t l
 |.ins c d=>(∃a,C c=some a/\o.cls=.ref a)/\o.dict=some d/\∀c,o.data≠.cls c
 |.aF l=>∃es ep,o.data=.dict es ep/\StrKeys es/\UniqKeys es/\fo h l (nsFind es)/\∀y,nsFind es y≠none->∃p∈l,QJ p.1=y
 |.bo l=>∃es ep,o.data=.dict es ep/\StrKeys es/\fo h l (nsFind es)
 |.bj v=>∃u,o.data=.cell u/\yP h v u
 |.raw o'=>o=o'
def aW(p:RU)(w:Sz)(C:String->Option Q5)(h:Rn)(a:Q5)(c:Cell):Prop:=∃o,h.get? a=some o/\d0 o/\rn p w C h o c
section
variable{p:RU}{w:Sz}{C:String->Option Q5}{h h':Rn}{o:Obj}{a:Q5}
theorem fo.mono(k:ax h h'){l:List (String×V)}{m:Str->Option QS}(x:fo h l m):fo h' l m:=λy v e=>(x y v e).imp λ_ z=>⟨z.1,z.2.mono k⟩
theorem jw(k:ax h h'){l:List V}{us:List QS}(x:ai (ak h) l us):ai (ak h') l us:=x.imp λ_ _ r=>r.mono k
theorem iT.mono(k:ax h h'){es:Array TA}{ep:Nat}{l:List (QI×V)}:∀(t:Nat),iT p w h es ep t l->iT p w h' es ep t l
 |0,x=>x
 |1,x=>⟨x.1,x.2.imp λ_ y=>⟨y.1,y.2.1,y.2.2.1,y.2.2.2.imp λ_ _ z=>⟨z.1,z.2.mono k⟩⟩⟩
 |2,x=>x.imp λ_ y=>⟨y.1,y.2.1,y.2.2.1,y.2.2.2.imp λ_ _ z=>⟨z.1,z.2.mono k⟩⟩
 |_+3,x=>x.imp λ_ y=>⟨y.1,λp hp=>(y.2.1 p hp).mono k,y.2.2.1,y.2.2.2.imp λ_ _ z=>⟨z.1,z.2.mono k⟩⟩
theorem rn.mono(k:ax h h'){c:Cell}:rn p w C h o c->rn p w C h' o c:=
 c.rec (λx=>x) (λ_ x=>⟨x.1,x.2.1,x.2.2.imp λ_ y=>y.imp λ_ z=>⟨z.1,jw k z.2⟩⟩)
  (λt _ x=>⟨x.1,x.2.1,x.2.2.imp λ_ y=>y.imp λ_ z=>⟨z.1,z.2.mono k t⟩⟩) (λ_ _ x=>x)
  (λ_ x=>x.imp λ_ y=>y.imp λ_ z=>⟨z.1,z.2.1,z.2.2.1,z.2.2.2.1.mono k,z.2.2.2.2⟩) (λ_ x=>x.imp λ_ y=>y.imp λ_ z=>⟨z.1,z.2.1,z.2.2.mono k⟩)
  (λ_ x=>x.imp λ_ y=>⟨y.1,λw e=>(y.2 w e).imp λ_ z=>⟨z.1,z.2.mono k⟩⟩) (λ_ x=>x)
theorem aW.at(k:ax h h'){c:Cell}(x:aW p w C h a c)(e:∀o,h.get? a=some o->h'.get? a=some o):aW p w C h' a c:=x.imp λo y=>⟨e o y.1,y.2.1,y.2.2.mono k⟩
theorem aW.obj{c:Cell}(x:aW p w C h a c)(e:h.get? a=some o):d0 o/\rn p w C h o c:=x.elim λ_ y=>QK (y.1.symm.trans e)▸y.2
end
structure kS where
 nm:Str
 q:Str
 C:Q5
 N:Q5
 bs:List QS
 sn:List Str
 sub:List QS
 col:Option Bool
 dd:Option Q5
 k0:Option QS
 k1:Option QS
 k2:Option QS
 k3:Option QS
 k5:Option QS
 mN:Str->Option QS
structure Eu(h:Rn)(bD:String->Option QS) c(d:kS):Prop where
 obj:h.get? d.C=some (U5 d.nm d.q d.C d.N d.bs [.type "object"] true d.sn d.sub false d.col d.dd d.k0 d.k1 d.k2 d.k3 d.k5 "object.__new__")
 ns:h.Ns d.N d.mN
 ga:d.mN "__getattribute__"=none
 gt:d.mN "__getattr__"=none
 sa:d.mN "__setattr__"=none
 at':∀x,jM.contains x=true->d.mN (QJ x)=none
 me:∀m u,bD (c++"."++m)=some u->∃f of,u=.ref f/\d.mN (QJ m)=some (.ref f)/\h.get? f=some of/\of.cls=.type "function"
structure FnAt(h:Rn) fn a fd body:Prop where
 obj:∃o,h.get? a=some o/\o.data=.func fd
 bd:fd.body=.stmts body
 ok:ub fn fd.params body fd.scope=true
 nd:fn.params.Nodup
 fN:fd.globals=R8
 bN:fd.builtins=T1
 DP:fd.closure=[]
 Dp:fd.defaults=.none
 qU:h.CodeRec fd.code fd.qualname
 nn:(fd.scope.names.map (·.1)).Nodup
inductive iU(h:Rn):QS->Prop
 |fn {a o fd}:h.get? a=some o->o.data=.func fd->iU h (.ref a)
 |cls {C nm q N bs bm hdct sn sub ab col dd k0 k1 k2 k3 k5 newId}:h.get? C=some (U5 nm q C N bs bm hdct sn sub ab col dd k0 k1 k2 k3 k5 newId)->iU h (.ref C)
 |bN (id):iU h (.builtin id)
 |type (T):iU h (.type T)
structure gC where
 a:Q5
 D:Q5
 N:Q5
 nm:Str
 q:Str
 bs:List QS
 sn:List Str
 sub:List QS
 ab:Bool
 col:Option Bool
 dd:Option Q5
 k0:Option QS
 k1:Option QS
 k2:Option QS
 k3:Option QS
 k5:Option QS
 c0:QS
 Ds:Option Q5
 cd:T9
 sl:Array (Option QS)
 mN:Str->Option QS
 mD:Str->Option QS
 fI:Q5
 oI:Obj
 fd:UR
structure u1(h:Rn)(mg:Str->Option QS)(x:gC):Prop where
 obj:h.get? x.a=some (U5 x.nm x.q x.a x.N x.bs (.ref x.D::dv) true x.sn x.sub x.ab x.col x.dd x.k0 x.k1 x.k2 x.k3 x.k5 "Exception.__new__")
 ns:h.Ns x.N x.mN
 sup:h.get? x.D=some {cls:=x.c0,dict:=x.Ds,data:=.cls x.cd,slots:=x.sl}
 pX:h.Ns x.cd.ns x.mD
 no:∀n∈oi,x.mN n=none/\x.mD n=none
 Ce:x.mN "__init__"=none
 nW:x.mD "__init__"=some (.ref x.fI)
 fn:h.get? x.fI=some x.oI
 fc:x.oI.cls=.type "function"
 CR:x.oI.data=.func x.fd
 bd:∃p1 p2 p3 p4 p5 p6 p7 p8,x.fd.body=.stmts [.Assign [.Attribute (.Name "self" p1) "code" p2] (.Name "code" p3) p4,.Assign [.Attribute (.Name "self" p5) "at" p6] (.Name "at" p7) p8]
 kind:x.fd.scope.kind=.function/\x.fd.scope.isCoroutine=false/\x.fd.scope.isGenerator=false
 bj:∀y∈x.fd.scope.names,y.2≠.cell
 loc:x.fd.scope.names.lookup ("self":Str)=some .local/\x.fd.scope.names.lookup ("code":Str)=some .local/\x.fd.scope.names.lookup ("at":Str)=some .local
 args:∀a b c,YI x.fd ⟨[a,b,c],[]⟩=pure [(("self":Str),a),(("code":Str),b),(("at":Str),c)]
 qU:h.CodeRec x.fd.code x.fd.qualname
 top:mg (QJ "BadImage")=some (.ref x.a)
structure Bs where
 prog:RU
 w:Sz
 h:Rn
 an:Rn
 os:XR
 X:String->Option Fn
 C:String->Option kS
 G:String->Option V
 R:Q5->Option Cell
 mg:Str->Option QS
 mb:Str->Option QS
 bD:String->Option QS
 top:h.Ns R8 mg
 bN:h.Ns T1 mb
 lim:h.NoLimit
 mods:h.get? To≠none
 zY:∀a c,R a=some c->a≠To
 zW:∀a c,R a=some c->aW prog w (λc=>(C c).map (·.C)) h a c
 gk:∀x d,xD x d=true->∃u,mg (QJ x)=some u/\ak h (.d d) u
 gv:∀x v,G x=some v->∃u,mg (QJ x)=some u/\ak h v u
 cls:∀c d,C c=some d->Eu h bD c d
 nW:∀c d,C c=some d->bD c=some (.ref d.C)
 yi:∀f u,bD f=some u->iU h u
 has:∀f,oY.contains f=true->∃u,bD f=some u
 met:∀m,uL.contains m=true->∃u,bD m=some u
 look:∀f u,oY.contains f=true->bD f=some u->mg (QJ f)=some u\/(mg (QJ f)=none/\mb (QJ f)=some u)
 fns:∀f fn,X f=some fn->∃a fd body,bD f=some (.ref a)/\FnAt h fn a fd body
 len:bD "len"=some (.builtin "len")
 chr:bD "chr"=some (.builtin "chr")
 str:bD "str"=some (.type "str")
 tup:bD "tuple"=some (.type "tuple")
 vI:bD "range"=some (.type "range")
 Dg:bD "enumerate"=some (.type "enumerate")
 e:gC
 oo:u1 h mg e
noncomputable abbrev Bs.M(B:Bs):Ub:=model B.prog B.w
abbrev Bs.aW(B:Bs)(h:Rn)(a:Q5)(c:Cell):Prop:=Internal.aW B.prog B.w (λc=>(B.C c).map (·.C)) h a c
structure Rel(B:Bs)(τ:Map)(s:QT):Prop where
 gens:s.gens=#[]
 os:s.os=B.os
 base:∀b o,B.h.get? b=some o->s.heap.get? b=some o
 cell:∀a c,τ a=some c->B.aW s.heap a c
 out:∀a c,τ a=some c->B.h.get? a=none
 kI:ax B.an s.heap
section
variable{B:Bs}{τ τ':Map}{s s':QT}{h':Rn}{d:Drawn}{t:Nat}{a:Q5}{c:Cell}
theorem Rel.to(R:Rel B τ s)(b:∀x o,B.h.get? x=some o->h'.get? x=some o)(k:ax s.heap h')
  (hc:∀a c,τ' a=some c->(τ a=some c/\∀o,s.heap.get? a=some o->h'.get? a=some o)\/(B.aW h' a c/\B.h.get? a=none)):Rel B τ' ⟨h',s.gens,d,t,s.os⟩:=
 ⟨R.gens,R.os,b,λa c e=>(hc a c e).elim (λx=>(R.cell a c x.1).at k x.2) acs,λa c e=>(hc a c e).elim (λx=>R.out a c x.1) And.right,R.kI.trans k⟩
theorem Rel.same(R:Rel B τ s):Rel B τ ⟨s.heap,s.gens,d,t,s.os⟩:=⟨R.gens,R.os,R.base,R.cell,R.out,R.kI⟩
theorem Rel.more(R:Rel B τ s)(k:∀a o,s.heap.get? a=some o->h'.get? a=some o):Rel B τ ⟨h',s.gens,d,t,s.os⟩:=R.to (λx o e=>k x o (R.base x o e)) (.of k) λa _ e=>.inl ⟨e,k a⟩
theorem Rel.fresh(R:Rel B τ s)(e:s.heap.get? a=none):τ a=none/\B.h.get? a=none:=⟨Q9.mpr λc q=>(R.cell a c q).elim λ_ y=>(nomatch e.symm.trans y.1),Q9.mpr λo q=>(nomatch e.symm.trans (R.base a o q))⟩
theorem Map.a7{σ:Map}:σ.put a c a=some c:=QR rfl
theorem Map.aO{σ:Map}{b:Q5}(n:b≠a):σ.put a c b=σ b:=QP n
theorem Rel.new(R:Rel B τ s)(k:∀a o,s.heap.get? a=some o->h'.get? a=some o)(n:s.heap.get? a=none)(x:ax s.heap h'->B.aW h' a c):Rel B (τ.put a c) ⟨h',s.gens,d,t,s.os⟩:=R.to (λx o e=>k x o (R.base x o e)) (.of k) λb _ e=>if q:b=a then .inr (q▸⟨QK ((QR q).symm.trans e)▸x (.of k),(R.fresh n).2⟩) else .inl ⟨(QP q).symm.trans e,k b⟩
theorem ax.but{h:Rn}(hs:Sr a h h')(ok:∀o,h.get? a=some o->d0 o):ax h h':=λb o e c=>⟨o.slots,(hs.2 b λq=>c (ok o (q▸e))).trans e⟩
theorem Rel.tup(R:Rel B τ s){c₀:Cell}(e:τ a=some c₀)(hs:Sr a s.heap h'):ax s.heap h':=.but hs λ_ g=>((R.cell a c₀ e).obj g).1
theorem Rel.put(R:Rel B τ s){c₀:Cell}(e:τ a=some c₀)(hs:Sr a s.heap h')(x:ax s.heap h'->B.aW h' a c):Rel B (τ.put a c) ⟨h',s.gens,d,t,s.os⟩:=
 R.to (λy o g=>(hs.2 y λq=>Q1 o (g.symm.trans (q▸R.out a c₀ e))).trans (R.base y o g)) (R.tup e hs)
  λb _ e'=>if q:b=a then .inr (q▸⟨QK ((QR q).symm.trans e')▸x (R.tup e hs),R.out a c₀ e⟩) else .inl ⟨(QP q).symm.trans e',λo g=>(hs.2 b q).trans g⟩
theorem Rel.less(R:Rel B τ s)(w:∀a c,τ' a=some c->τ a=some c):Rel B τ' s:=⟨R.gens,R.os,R.base,λa c e=>R.cell a c (w a c e),λa c e=>R.out a c (w a c e),R.kI⟩
def Rd(B:Bs)(τ:Map)(a:Q5)(c:Cell):Prop:=τ a=some c\/B.R a=some c
theorem Rel.keep(R:Rel B τ s):ax B.h s.heap:=.of R.base
theorem Rel.read(R:Rel B τ s)(x:Rd B τ a c):B.aW s.heap a c:=x.elim (R.cell a c) λe=>(B.zW a c e).at R.keep λo g=>R.base a o g
end
section
variable{σ φ:Map}{a b:Q5}{c:Cell}
theorem bh(e:σ a=some c):(σ.join φ) a=some c:=by unfold Map.join;exact aa e rfl
theorem bf(n:σ a=none):(σ.join φ) a=φ a:=by unfold Map.join;exact aa n rfl
theorem BZ:(σ.join φ).put a c=(σ.put a c).join φ:=funext λb=>if e:b=a then(QR e).trans (bh (QR e)).symm else(QP e).trans (show _=Map.join _ _ b by unfold Map.join;exact aa (show σ.put a c b=σ b from QP e) rfl)
theorem qu(n:σ a=none):(σ.join φ).put a c=σ.join (φ.put a c):=funext λb=>if e:b=a then(QR e).trans ((bf (e▸n)).trans (QR e)).symm else(QP e).trans (show _=Map.join _ _ b by unfold Map.join;exact aa (show φ.put a c b=φ b from QP e) rfl)
end
structure ag B(σ φ:Map) s:Prop where
 rel:Rel B (σ.join φ) s
 cA:∀a,φ a≠none->σ a=none
section
variable{B:Bs}{σ φ:Map}{s:QT}{h':Rn}{d:Drawn}{t:Nat}{a:Q5}{c c₀:Cell}
theorem ag.same(S:ag B σ φ s):ag B σ φ ⟨s.heap,s.gens,d,t,s.os⟩:=⟨S.rel.same,S.cA⟩
theorem ag.more(S:ag B σ φ s)(k:∀a o,s.heap.get? a=some o->h'.get? a=some o):ag B σ φ ⟨h',s.gens,d,t,s.os⟩:=⟨S.rel.more k,S.cA⟩
theorem ag.fresh(S:ag B σ φ s)(e:s.heap.get? a=none):σ a=none/\φ a=none:=have x:=(S.rel.fresh e).1;have n:=Q9.mpr λc q=>Q1 c ((bh q).symm.trans x);⟨n,(bf n).symm.trans x⟩
theorem ag.new(S:ag B σ φ s)(k:∀a o,s.heap.get? a=some o->h'.get? a=some o)(n:s.heap.get? a=none)(x:ax s.heap h'->B.aW h' a c):ag B (σ.put a c) φ ⟨h',s.gens,d,t,s.os⟩:=⟨BZ▸S.rel.new k n x,λb q=>if e:b=a then absurd (e▸(S.fresh n).2) q else(QP e).trans (S.cA b q)⟩
theorem ag.put(S:ag B σ φ s)(e:σ a=some c₀)(hs:Sr a s.heap h')(x:ax s.heap h'->B.aW h' a c):ag B (σ.put a c) φ ⟨h',s.gens,d,t,s.os⟩:=⟨BZ▸S.rel.put (bh e) hs x,λb q=>if n:b=a then(Q1 c₀ (e.symm.trans (n▸S.cA b q))).elim else(QP n).trans (S.cA b q)⟩
theorem ag.dm(S:ag B σ φ s)(e:φ a=some c₀):σ a=none:=S.cA a (e▸Q1 _)
theorem ag.jb(S:ag B σ φ s)(e:φ a=some c₀)(hs:Sr a s.heap h')(x:ax s.heap h'->B.aW h' a c):ag B σ (φ.put a c) ⟨h',s.gens,d,t,s.os⟩:=⟨qu (S.dm e)▸S.rel.put ((bf (S.dm e)).trans e) hs x,λb q=>if n:b=a then n▸S.dm e else S.cA b ((QP n:φ.put a c b=φ b)▸q)⟩
theorem ag.p9(S:ag B σ φ s)(k:∀a o,s.heap.get? a=some o->h'.get? a=some o)(n:s.heap.get? a=none)(x:ax s.heap h'->B.aW h' a c):ag B σ (φ.put a c) ⟨h',s.gens,d,t,s.os⟩:=⟨qu (S.fresh n).1▸S.rel.new k n x,λb q=>if e:b=a then e▸(S.fresh n).1 else S.cA b ((QP e:φ.put a c b=φ b)▸q)⟩
theorem ag.l(S:ag B σ φ s)(e:σ a=some c):B.aW s.heap a c:=S.rel.cell a c (bh e)
theorem ag.r(S:ag B σ φ s)(e:φ a=some c):B.aW s.heap a c:=S.rel.cell a c ((bf (S.dm e)).trans e)
theorem Rd.join(x:Rd B σ a c):Rd B (σ.join φ) a c:=x.imp_left bh
theorem ag.read(S:ag B σ φ s)(x:Rd B σ a c):B.aW s.heap a c:=S.rel.read x.join
theorem ag.less{φ':Map}(S:ag B σ φ s)(w:∀a c,φ' a=some c->φ a=some c):ag B σ φ' s:=
 have d:=λa q=>S.cA a λe=>(Rw.mp q).elim λc g=>nomatch e.symm.trans (w a c g)
 ⟨S.rel.less λa c e=>if q:σ a=none then(bf q).trans (w a c ((bf q).symm.trans e)) else(Rw.mp q).elim λ_ g=>(bh g).trans ((bh g).symm.trans e),d⟩
end
def QF(o:Option QS):Prop:=o=none
def q9(o:Option QS):Prop:=o=some .none
def yz(env:Env)(o:Option QS):Prop:=∃L,env.frame=some L/\o=some (UA L)
def atAny(env:Env)(o:Option QS):Prop:=o=none\/o=some .none\/yz env o
def Tb(η:Map)(x:Q5)(ph:Option QS->Prop)(tb:QS):Prop:=(tb=.none/\ph none)\/∃T oT ts fl,tb=.ref T/\T≠x/\η T=some (.raw oT)/\oT.data=.fields ts/\ts[3]?=some fl/\ph (some fl)
structure jH exc η x(c a) ph:Prop where
 it:∃oe vs dx tb l,η x=some (.raw oe)/\oe.cls=.ref exc/\oe.dict=some dx/\oe.data=.fields vs/\vs[1]?=some tb/\Tb η x ph tb/\η dx=some (.aF l)/\l.lookup "code"=some (.d c)/\l.lookup "at"=some (.d a)
def aA(B:Bs)(φ:Map)(h₀:Rn)(Q:V->Map->Prop)(u:QS)(s:QT):Prop:=∃v σ,Q v σ/\ak s.heap v u/\ag B σ φ s/\ax h₀ s.heap
def gu(B:Bs)(φ:Map)(h₀:Rn)(Q:Bool->Map->Prop)(b:Bool)(s:QT):Prop:=∃σ,Q b σ/\ag B σ φ s/\ax h₀ s.heap
def yO(B:Bs)(φ:Map)(h₀:Rn)(Q:List V->Map->Prop)(us:List QS)(s:QT):Prop:=∃vs σ,Q vs σ/\ai (ak s.heap) vs us/\ag B σ φ s/\ax h₀ s.heap
def Px(B:Bs)(φ:Map)(ph:Option QS->Prop)(X:QI->QI->Map->Prop)(e:QS)(s:QT):Prop:=∃c a σ η x,X c a σ/\e=.ref x/\jH B.e.a η x c a ph/\ag B σ (φ.join η) s/\∀a,η a≠none->φ a=none
section
variable{B:Bs}{h:Rn}{a:Q5}
theorem aW.bo{l:aK}(x:B.aW h a (.bo l)):∃m,h.Ns a m/\fo h l m:=x.elim λo y=>ao y.2.2 λes ep z=>⟨_,⟨o,es,ep,y.1,z.1,z.2.1,λ_=>rfl⟩,z.2.2⟩
theorem aW.bj{v:Option V}(x:B.aW h a (.bj v)):∃u,h.IsCell a u/\yP h v u:=x.elim λo y=>y.2.2.imp λ_ z=>⟨⟨o,y.1,z.1⟩,z.2⟩
theorem aW.lst{l:List V}(x:B.aW h a (.lst l)):∃xs,h.IsList a xs/\ai (ak h) l xs.toList:=x.elim λo y=>ao y.2.2.2.2 λxs n z=>⟨xs,⟨o,y.1,y.2.2.1,n,z.1⟩,z.2⟩
end
structure Cx where
 B:Bs
 n:Nat
 h:Bool
 ρ:aK
 x:Option (String×QI×QI)
 κ:aK
 X:QI->QI->Map->Prop
def Var(env:Env)(φ:Map)(x:String)(v:V):Prop:=(env.kindOf (QJ x)=some .local/\∃l,φ env.locals=some (.bo l)/\l.lookup x=some v)\/
 ((env.kindOf (QJ x)=some .cell\/env.kindOf (QJ x)=some .free)/\∃a,env.cells.lookup (QJ x)=some a/\φ a=some (.bj (some v)))
def eG(φ:Map)(l:List Env):Prop:=∀env∈l,env.scope.kind≠.module/\∃L l,env.frame=some L/\φ L=some (.bo l)
structure At(c:Cx)(A:Rg)(env:Env) sc φ:Prop where
 fe:∃f l,A.frames=some (f::l)/\f.frame=env.frame/\eG φ (f::l)
 dep:A.depth+4*c.n+8<TF
 fy:A.units+60*c.n+380<cLine
 hd:A.handled=none\/c.h=true
 fn:env.scope.kind=.function
 fN:env.globals=R8
 bN:env.builtins=T1
 gl:∀n,nS sc n=true->env.kindOf n=some .globalImplicit
 bj:∀n,sc.names.lookup n=some .cell->env.kindOf n=some .cell/\∃a,env.cells.lookup n=some a
 var:∀x v,jl sc (QJ x)=true->c.ρ.lookup x=some v->Var env φ x v
 oh:∀y p q,c.x=some (y,p,q)->∃e ph,Var env φ y (.r e)/\jH c.B.e.a φ e p q ph
def Ev(c:Cx)(e:E)(σ:Map)(Q:V->Map->Prop):Prop:=∀(A:Rg) env sc φ s z,At c A env sc φ->bq sc e z->ag c.B σ φ s->
 wpAny c.B.M A (eval z env) (aA c.B φ s.heap Q) (Px c.B φ (atAny env) c.X) s
def Ts(c:Cx)(e:E)(σ:Map)(Q:Bool->Map->Prop):Prop:=∀(A:Rg) env sc φ s z,At c A env sc φ->bq sc e z->ag c.B σ φ s->
 wpAny c.B.M A (isTrue z env (eval z env)) (gu c.B φ s.heap Q) (Px c.B φ (atAny env) c.X) s
def cM(c:Cx)(es:Es)(σ:Map)(Q:List V->Map->Prop):Prop:=∀(A:Rg) env sc φ s l,At c A env sc φ->cK sc es l->ag c.B σ φ s->
 wpAny c.B.M A (XS (l.map λe=>(false,eval e env))) (yO c.B φ s.heap Q) (Px c.B φ (atAny env) c.X) s
def Op(c:Cx)(σ:Map)(t:Sem QS)(Q:V->Map->Prop):Prop:=∀(A:Rg) φ s E,A.units+300<cLine->ag c.B σ φ s->wpAny c.B.M A t (aA c.B φ s.heap Q) E s
section
variable{c:Cx}{σ φ:Map}{s:QT}{Q:V->Map->Prop}{v:V}{u:QS}{d:Drawn}{t:Nat}
theorem aA.now{B:Bs}(S:ag B σ φ s)(r:ak s.heap v u)(q:Q v σ):aA B φ s.heap Q u ⟨s.heap,s.gens,d,t,s.os⟩:=⟨v,σ,q,r,S.same,.refl _⟩
theorem aA.elim{B:Bs}{h₀:Rn}{G:Prop}(x:aA B φ h₀ Q u s)(k:∀v σ,Q v σ->ak s.heap v u->ag B σ φ s->ax h₀ s.heap->G):G:=ao x λv σ y=>k v σ y.1 y.2.1 y.2.2.1 y.2.2.2
theorem aA.after{B:Bs}{h₀ h₁:Rn}(k:ax h₀ h₁)(x:aA B φ h₁ Q u s):aA B φ h₀ Q u s:=ao x λv σ y=>⟨v,σ,y.1,y.2.1,y.2.2.1,k.trans y.2.2.2⟩
theorem gu.elim{B:Bs}{h₀:Rn}{G:Prop}{Q:Bool->Map->Prop}{b:Bool}(x:gu B φ h₀ Q b s)(k:∀σ,Q b σ->ag B σ φ s->ax h₀ s.heap->G):G:=Q7 x λσ y=>k σ y.1 y.2.1 y.2.2
theorem yO.elim{B:Bs}{h₀:Rn}{G:Prop}{Q:List V->Map->Prop}{us:List QS}(x:yO B φ h₀ Q us s)(k:∀vs σ,Q vs σ->ai (ak s.heap) vs us->ag B σ φ s->ax h₀ s.heap->G):G:=ao x λv σ y=>k v σ y.1 y.2.1 y.2.2.1 y.2.2.2
theorem iy{h:Rn} i t:ak h (.d (.int i)) (.int i t):=⟨rfl,.int i t⟩
theorem D6{h:Rn} b:ak h (.d (.bool b)) (.bool b):=⟨rfl,.bool b⟩
theorem s8{h:Rn}:ak h (.d .none) .none:=⟨rfl,.none⟩
theorem mX{h:Rn}{x:Str}(ok:aP (.str x)=true) t:ak h (.d (.str x)) (.str x t):=⟨ok,.str x t⟩
theorem Ev.lit{d:QI}(q:Q (.d d) σ):Ev c (.lit d) σ Q:=λA env sc φ s z _ m S=>gS.inv (ae m.b).1 λk p=>@PyData.casesOn (λd=>Q (.d d) σ->wa d=true->wpAny c.B.M A (eval (.Constant (yf d) k p) env) (aA c.B φ s.heap Q) (Px c.B φ (atAny env) c.X) s) d
 (λq _=>wpAny_Constant_none (aA.now S s8 q)) (λb q _=>wpAny_Constant_bool (aA.now S (D6 b) q)) (λb q _=>Yi (aA.now S (iy b _) q)) (λb q o=>wpAny_Constant_str (aA.now S (mX o _) q)) (λ_ _ o=>ff o) (λ_ _ o=>ff o) (λ_ _ o=>ff o) q (ae m.b).2
theorem Ev.bb(q:Q .bb σ):Ev c .lK σ Q:=λA env sc φ s z _ m S=>gS.inv m.b λ_ _=>show wpAny _ _ (mkTextBytes #[]) _ _ _ by
 exact QM (wpAny_fresh (QV (aA.now (v:=.bb) S ⟨_,rfl⟩ q)))
theorem uk{n:Str}(h:nk n=true):(n==("__debug__":Str))=false/\(n==("__classdict__":Str))=false:=(ae h).imp (λe=>SZ _▸e) λe=>SZ _▸e
theorem w1{M:Ub}{A:Rg}{E:QS->QT->Prop}{B:Bs}{env:Env}{x:String}{Q:QS->QT->Prop}(S:ag B σ φ s)(k:env.scope.kind=.function)(x':Var env φ x v)(d:nk (QJ x)=true)(h:∀u,ak s.heap v u->Q u s):wpAny M A (loadName env (QJ x)) Q E s:=
 x'.elim (λy=>y.2.elim λl z=>(S.r z.1).bo.elim λm w=>(w.2 x v z.2).elim λu r=>wpAny_loadName_local k y.1 w.1 r.1 (h u r.2))
  λy=>y.2.elim λa z=>(S.r z.2).bj.elim λo w=>(w.2 v rfl).elim λu r=>y.1.elim (λe=>wpAny_loadName_cell k e z.1 (r.1▸w.1) (h u r.2)) λe=>wpAny_loadName_free k e z.1 (r.1▸w.1) (h u r.2) (uk d).2
theorem Ev.lv{x:String}(e:c.ρ.lookup x=some v)(q:Q v σ):Ev c (.lv x) σ Q:=λA env sc φ s z a m S=>have m:=ae m.b;have n:uK sc x z:=dO.inv m.1;n.1.elim λ_ y=>y▸wpAny_Name (w1 S a.fn (a.var x v m.2 e) n.2 λ_ r=>aA.now S r q) (uk n.2).1
theorem ig{M:Ub}{A:Rg}{E:QS->QT->Prop}{env:Env}{sc:RE}{x:String}{z:QL}{Q:QS->QT->Prop}(S:ag c.B σ φ s)(a:At c A env sc φ)(m:jE sc x z)(hu:c.B.mg (QJ x)=some u\/(c.B.mg (QJ x)=none/\c.B.mb (QJ x)=some u))(h:Q u s):wpAny M A (eval z env) Q E s:=
 have g1:=a.fN▸c.B.top.keeps S.rel.base
 m.1.1.elim λ_ e=>e▸Name_function_global a.fn (a.gl _ m.2) (hu.elim (λhu=>loadGlobal_global g1 hu h) λhu=>loadGlobal_builtin g1 hu.1 (a.bN▸c.B.bN.keeps S.rel.base) hu.2 h) (uk m.1.2).1
theorem Ev.gv{x:String}(e:c.B.G x=some v)(q:Q v σ):Ev c (.gv x) σ Q:=λA env sc φ s z a m S=>(c.B.gv x v e).elim λu y=>ig S a (dg.inv m.b) (.inl y.1) (aA.now S (y.2.mono S.rel.keep) q)
theorem Ev.gk{x:String}{d:QI}(q:Q (.d d) σ):Ev c (.gk x d) σ Q:=λA env sc φ s z a m S=>(c.B.gk x d (ae m.b).2).elim λu y=>ig S a (dg.inv (ae m.b).1) (.inl y.1) (aA.now S (y.2.mono S.rel.keep) q)
end
def getD(l:List (QI×V))(x:QI):Option V:=l.rec none λp _ r=>if p.1=x then some p.2 else r
def putD(l:List (QI×V))(x:QI)(v:V):List (QI×V):=l.rec [(x,v)] λp t r=>if p.1=x then(x,v)::t else p::r
noncomputable def kd(d:QI):Nat:=d.casesOn 0 (λ_=>0) (λ_=>1) (λ_=>2) (λ_=>0) (λxs=>if qs 2 xs=true then 3 else 0) λ_=>0
def gA(h:Rn)(k:QI)(u:QS):Nat->Prop
 |0=>False
 |1=>∃i t,k=.int i/\u=.int i t
 |2=>∃x t,k=.str x/\u=.str x t
 |_+3=>∃a,u=.ref a/\oQ h k a
theorem gA.of{h:Rn}{k:QI}{u:QS}{t:Nat}(r:ak h (.d k) u)(e:kd k=t)(n:t≠0):gA h k u t:=by
 cases k with
 |int i=>exact e▸r.rd.elim λt y=>⟨i,t,rfl,y⟩
 |str i=>exact e▸r.rd.elim λt y=>⟨i,t,rfl,y⟩
 |tuple xs=>exact if q:qs 2 xs=true then(e.symm.trans (QR q):t=3)▸r.rd.elim λa y=>y.elim λus y=>⟨a,y.1,q,r.1,y.1▸r.2⟩ else absurd (e.symm.trans (QP q)) n
 |_=>exact absurd e.symm n
theorem iT.empty{p:RU}{w:Sz}{h:Rn}:∀t:Nat,iT p w h #[] 0 t []
 |0=>⟨rfl,rfl,rfl⟩
 |1=>⟨rfl,[],λ_ he=>absurd he (by simp),.nil,SA,.nil⟩
 |2=>⟨[],λ_ he=>absurd he (by simp),.nil,SA,.nil⟩
 |_+3=>⟨[],rfl,λ_ he=>absurd he (by simp),SA,.nil⟩
theorem iT.kind{p:RU}{w:Sz}{h:Rn}{es:Array TA}{ep:Nat}{l:List (QI×V)}{k:QI}{u:QS}:∀{t t':Nat},iT p w h es ep t l->gA h k u t'->t=0\/t=t'->iT p w h es ep t' l
 |t,t',x,y,.inr e=>e▸x
 |0,t',x,_,.inl _=>x.1▸x.2.1▸x.2.2▸.empty t'
def Got(h:Rn)(v:Option V)(r:Option QS):Prop:=v.casesOn (r=none) λv=>∃w,r=some w/\ak h v w
section
variable{K:Type}[DecidableEq K]{h:Rn}{f:K->QI}{l:List (QI×V)}{kvs:List (K×QS)}{xs:List (QI×Q5×QS)}{k:QI}
theorem xG{p:QI×V}:getD (p::l) k=if p.1=k then some p.2 else getD l k:=rfl
theorem xC(inj:∀a b,f a=f b->a=b){i:K}(x:ai (λ(p:QI×V) q=>p.1=f q.1/\ak h p.2 q.2) l kvs):Got h (getD l (f i)) (XT kvs i):=
 x.rec rfl λ{a b as bs} r _ ih=>by
  (refine aa xG ?_;rewrite [XT];refine aa (Xl) ?_)
  by_cases e:b.1=i
  ·refine aa (QR (r.1.trans (QQ f e))) (aa (Rc e) ?_);exact ⟨_,rfl,r.2⟩
  ·refine aa (QP (λq=>e (inj _ _ (r.1.symm.trans q)))) (aa (Rm e) ?_);exact ih
theorem Cr(x:ai (λ(p:QI×V) q=>p.1=q.1/\ak h p.2 q.2.2) l xs):Got h (getD l k) ((atKey xs k).map (·.2)):=
 x.rec rfl λ{a b as bs} r _ ih=>by
  (refine aa xG ?_;rewrite [atKey];refine aa (Xl) ?_)
  by_cases e:b.1=k
  ·refine aa (QR (r.1.trans e)) (aa (Rc e) ?_);exact ⟨_,rfl,r.2⟩
  ·refine aa (QP (λq=>e (r.1.symm.trans q))) (aa (Rm e) ?_);exact ih
theorem cj:∀a b:Int,RM a=.int b->a=b:=λ_ _ e=>by injection e
theorem str_inj:∀a b:Str,Yj a=.str b->a=b:=λ_ _ e=>by injection e
end
section
variable{B:Bs}{σ φ:Map}{s:QT}{A:Rg}{E:QS->QT->Prop}{a:Q5}{l:List (QI×V)}{t:Nat}{k:QI}{u:QS}
theorem x7{Q:Option QS->QT->Prop}(rm:A.units+100<cLine)(D:B.aW s.heap a (.aj t l)):∀{t':Nat}(y:gA s.heap k u t')(ht:t=0\/t=t')(q:∀r tk,Got s.heap (getD l k) r->Q r {s with toks:=tk}),wpAny B.M A (dictGet a u) Q E s
 |1,y,ht,q=>ao y λi tk e=>D.elim λo g=>ao g.2.2.2.2 λes ep z=>e.2▸(z.2.kind y ht).2.elim λkvs D=>Y5 (Yk _ _ i tk) (YJ ⟨o,es,ep,g.1,g.2.2.1,z.1,D.1,D.2.1,D.2.2.1⟩) (q _ _ (e.1▸xC cj D.2.2.2))
 |2,y,ht,q=>ao y λi tk e=>D.elim λo g=>ao g.2.2.2.2 λes ep z=>e.2▸(z.2.kind y ht).elim λkvs D=>Y5 (strKind_is _ _ i tk) (YJ ⟨o,es,ep,g.1,g.2.2.1,z.1,D.1,D.2.1,D.2.2.1⟩) (q _ _ (e.1▸xC str_inj D.2.2.2))
 |_+3,y,ht,q=>y.elim λb e=>D.elim λo g=>ao g.2.2.2.2 λes ep z=>e.1▸(z.2.kind y ht).elim λkvs D=>wpAny_dictGet_heap (show A.units+40<cLine by lia) e.2 ⟨o,es,ep,g.1,g.2.2.1,z.1,D.1,D.2.1,D.2.2.1⟩ (q _ _ (Cr D.2.2.2))
end
theorem room{a n m k:Nat}(h:a+n<k)(e:m<=n):a+m<k:=QO (Rj e a) h
theorem lH{x y:String}(h:QJ x=QJ y):x=y:=by
 rw [W9,W9] at h;have h1:=by simpa using QQ Str.cps h
 exact String.toList_inj.mp ((List.map_inj_right λa b e=>Char.ext (UInt32.toNat_inj.mp e)).mp h1)
theorem Ps:jM.all (λx=>fastLookup "object" (QJ x)==some none)=true:=by kernel_rfl
theorem D7{x:String}(h:jM.contains x=true):S6 (.type "object") (QJ x)=pure none:=by
 (rewrite [Tc];refine aa R9 (aa (eq_of_beq (Rp.mp Ps x (Sp.mp h))) ?_);rfl)
theorem yx{o:QL}{attr:Str}{env:Env}{whole:Sem QS}(h:pO o=true):attributeBase o attr env whole=whole:=by
 cases o with
 |Call f args kws p=>
  cases f with
  |Name id q=>
   cases args with
   |nil=>cases kws with
    |nil=>exact ff h
    |cons _ _=>rfl
   |cons _ _=>rfl
  |_=>rfl
 |_=>rfl
section
variable{h:Rn}{v:V}{u:QS}
theorem ak.ref{a:Q5}(e:v=.r a)(r:ak h v u):u=.ref a:=(e▸r:ak h (.r a) u)
theorem handed(r:ak h v u):handedOut u=pure u:=by
 cases v with
 |d x=>cases x with
  |none=>exact r.rd▸rfl
  |bool b=>exact r.rd▸rfl
  |int i=>exact r.rd.elim λt e=>e▸rfl
  |str i=>exact r.rd.elim λt e=>e▸rfl
  |tuple xs=>exact r.rd.elim λt e=>e.elim λ_ e=>e.1▸rfl
  |list _=>exact r.rd.elim
  |dict _=>exact r.rd.elim
 |r a=>exact r▸rfl
 |bb=>exact r.elim λt e=>e▸rfl
end
section
variable{B:Bs}{h:Rn}{a d:Q5}{n:String}{l:List (String×V)}{prog:RU}{w:Sz}
theorem aW.ins(x:B.aW h a (.ins n d)):∃D o,B.C n=some D/\h.get? a=some o/\o.cls=.ref D.C/\o.dict=some d/\∀c,o.data≠.cls c:=x.elim λo y=>y.2.2.1.elim λC z=>(RH.mp z.1).elim λD e=>⟨D,o,e.1,y.1,e.2▸z.2,y.2.2.2⟩
theorem aW.aF(x:B.aW h a (.aF l)):∃m,h.Ns1 a m/\fo h l m/\∀y,m y≠none->∃p∈l,QJ p.1=y:=x.elim λo y=>ao y.2.2 λes ep z=>⟨_,⟨o,es,ep,y.1,z.1,z.2.1,z.2.2.1,λ_=>rfl⟩,z.2.2.2⟩
theorem xw{σ:Map}(x:σ a=some (.ins n d))(y:σ d=some (.aF l)):d≠a:=λe=>nomatch(e▸y).symm.trans x
theorem B7(ne:d≠a)(x:B.aW h a (.ins n d))(y:B.aW h d (.aF l)):∃D m,B.C n=some D/\h.Inst a D.C m/\fo h l m/\(∀y,m y≠none->∃p∈l,QJ p.1=y)/\h.Ns1 d m:=ao x.ins λD o i=>y.aF.elim λm j=>⟨D,m,i.1,⟨o,i.2.1,i.2.2.1,i.2.2.2.2,.inr ⟨d,i.2.2.2.1,ne,j.1⟩⟩,j.2.1,j.2.2,j.1⟩
end
def ry(x:String)(Q:V->Map->Prop)(v:V)(σ:Map):Prop:=∃a n d l u,v=.r a/\σ a=some (.ins n d)/\σ d=some (.aF l)/\l.lookup x=some u/\Q u σ
section
variable{c:Cx}{σ φ:Map}{s:QT}{Q:V->Map->Prop}{v u:V}{x:String}{a d:Q5}{n:String}{l:List (String×V)}
theorem ry.mk(h1:σ a=some (.ins n d))(h2:σ d=some (.aF l))(h3:l.lookup x=some u)(q:Q u σ):ry x Q (.r a) σ:=⟨a,n,d,l,u,rfl,h1,h2,h3,q⟩
theorem L6{B:Bs}{A:Rg}{E:QS->QT->Prop}{fill:Bool}{w:QS}(hx:jM.contains x=true)(k:ry x Q v σ)(r:ak s.heap v w)(S:ag B σ φ s):wpAny B.M A (getAttr w (QJ x) fill) (aA B φ s.heap Q) E s:=
 cm k λa n d l u k=>r.ref k.1▸ao (B7 (xw k.2.1 k.2.2.1) (S.l k.2.1) (S.l k.2.2.1)) λD m i=>(i.2.2.1 x u k.2.2.2.1).elim λy z=>
  have K:=B.cls n D i.1
  load_attr (S.rel.base _ _ K.obj) (K.ns.keeps S.rel.base) K.ga (K.at' x hx) (D7 hx) i.2.1 z.1 (handed z.2) (aA.now S z.2 k.2.2.2.2)
theorem Ev.aF{e:E}(h:Ev c e σ (ry x Q)):Ev c (.aF e x) σ Q:=λA env sc φ s z a m S=>eN.inv m.b λo n p m=>have m:=cV m;eq_of_beq m.1▸Yl ..▸yx m.2.2.1▸
 QM (aG (h A env sc φ s o a m.2.2.2 S) (λu s1 P=>P.elim λv σ1 k r S1 tk=>QM (Sf (QM (RA (aG (L6 m.2.1 k r S1) (λr s2 h2=>QM (VH (QV (aA.after tk h2))))))))))
end
theorem uQ:ah<=TG:=by refine aa VI ?_;decide
theorem uR:(ah:Int)<2^63:=by decide
theorem readsAll_get{h:Rn}{us:List QS}{xs:List QI}{as:List Q5}(r:Sn h us xs as):as=[]->∀(i:Nat)(x:QI),xs[i]?=some x->∃u,us[i]?=some u/\UN h u x []:=
 VX (motive_1:=λ_ _ _ _=>True) (motive_2:=λus xs as _=>as=[]->∀(i:Nat)(x:QI),xs[i]?=some x->∃u,us[i]?=some u/\UN h u x []) trivial (λ_=>trivial) (λ_ _=>trivial) (λ_ _=>trivial) (λ_ _ _ _ _=>trivial) (λ_ _ _ _ _=>trivial) (λ_ _ _ _ _ _ _=>trivial)
  (λ_ _ _ e=>nomatch e) (λ{v _ d _ _ _} r1 _ _ ih e i=>i.casesOn (λx q=>⟨v,rfl,QK q▸(eY e).1▸r1⟩) (ih (eY e).2)) r
theorem AG:∀{xs:List QI}{n:Nat},hK xs=true->UX xs<=n->n<=30->∀(i:Nat)(x:QI),xs[i]?=some x->aP x=true
 |y::ys,n,p,q,m,0,x,e=>QK e▸Q8.mpr ⟨(ae p).1,Rc (QN (TR _ _) (QN (PyData.depthAll.eq_2 ..▸q) m))⟩
 |y::ys,n,p,q,m,i+1,x,e=>AG (ae p).2 (QN (TC _ _) (PyData.depthAll.eq_2 ..▸q)) m i x e
theorem sP{xs:List QI}{i:Nat}{x:QI}(h:aP (.tuple xs)=true)(e:xs[i]?=some x):aP x=true:=AG (n:=29) (eK h).2 (by have d:=hW h;rw [Ug] at d;exact Rv (by omega)) (by decide) i x e
inductive KGet(B:Bs)(Q:V->Map->Prop)(σ:Map):V->V->Prop
 |tup {xs:List QI} {j:Int} {x:QI}:0<=j->j<ah->xs[j.toNat]?=some x->Q (.d x) σ->KGet B Q σ (.d (.tuple xs)) (.d (.int j))
 |lst {a:Q5} {l:List V} {j:Int} {x:V}:Rd B σ a (.lst l)->0<=j->j<ah->l[j.toNat]?=some x->Q x σ->KGet B Q σ (.r a) (.d (.int j))
 |aj {a:Q5} {t:Nat} {l:List (QI×V)} {k:QI} {x:V}:Rd B σ a (.aj t l)->kd k=t->t≠0->getD l k=some x->Q x σ->KGet B Q σ (.r a) (.d k)
section
variable{B:Bs}{σ φ:Map}{s:QT}{A:Rg}{E:QS->QT->Prop}{Q:V->Map->Prop}{v k:V}{u w:QS}{a:Q5}
theorem aW.dict{t:Nat}{l:List (QI×V)}(D:B.aW s.heap a (.aj t l)):s.TypeIs (.ref a) "dict":=D.elim λo g=>⟨o,g.1,g.2.2.1.1⟩
theorem L0{t:Nat}{l:List (QI×V)}{k:QI}{x:V}(rm:A.units+300<cLine)(D:B.aW s.heap a (.aj t l))(e:kd k=t)(n:t≠0)(r:ak s.heap (.d k) w)(g:getD l k=some x)(S:ag B σ φ s)(q:Q x σ):wpAny B.M A (T4 (.ref a) w) (aA B φ s.heap Q) E s:=by
 have hT:=D.dict;unfold PySem.getItem
 try with_reducible refine RA ?_
 refine QM (Vd hT (by decide) (QM (SR (name:=QJ "__getitem__") hT WB (Se WB hT entry_dict_getitem ?_ (args_dict_getitem _ _)))));refine (?_:wpAny _ _ (dictGet a w>>=_) _ _ s);refine QM (x7 (show A.units+1+100<cLine by lia) D (gA.of r e n) (.inr rfl) λr tk y=>(show∃w,r=some w/\ak s.heap x w from(g▸y:Got s.heap (some x) r)).elim λw z=>?_);refine aa z.1 ?_;exact QV ⟨w,rfl,QV (aA.now S z.2 q)⟩
theorem L4(rm:A.units+300<cLine)(S:ag B σ φ s)(K:KGet B Q σ v k)(ra:ak s.heap v u)(rb:ak s.heap k w):wpAny B.M A (T4 u w) (aA B φ s.heap Q) E s:=
 @KGet.casesOn B Q σ (λv k _=>ak s.heap v u->ak s.heap k w->wpAny B.M A (T4 u w) (aA B φ s.heap Q) E s) v k K
  (λ{xs j x} h0 h1 h2 q ra rb=>rb.rd.elim λt e=>e▸ao ra.rd λa us y=>y.1▸(readsAll_get y.2.2 rfl j.toNat x h2).elim λz g=>
   have lt:j.toNat<us.size:=(Sl.mp g.1).1
   ZR y.2.1 (by lia) (Uh h1 uR) (j:=j.toNat) (by
    have e1:¬j<0:=by lia
    have e2:j<(us.size:Int):=by lia
    simp [seqIndex?,e1,e2,h0]) (TO▸g.1) (aA.now (v:=.d x) S ⟨sP ra.1 h2,g.2⟩ q))
  (λ{_ _ _ x} h h0 h1 h2 q ra rb=>rb.rd.elim λt e=>e▸(ra:u=_)▸(S.read h).lst.elim λxs y=>(y.2.get _ x h2).elim λz g=>wpAny_getItem_list y.1 h0 (Uh h1 uR) (TO▸g.1) (aA.now S g.2 q))
  (λh e n g q ra rb=>(ra:u=_)▸L0 rm (S.read h) e n rb g S q) ra rb
theorem KGet.type(S:ag B σ φ s)(K:KGet B Q σ v k)(ra:ak s.heap v u):s.TypeIs u "tuple"\/s.TypeIs u "list"\/s.TypeIs u "dict":=
 @KGet.casesOn B Q σ (λv _ _=>ak s.heap v u->s.TypeIs u "tuple"\/s.TypeIs u "list"\/s.TypeIs u "dict") v k K (λ_ _ _ _ ra=>ao ra.rd λa us y=>.inl (y.1▸y.2.1.typeIs))
  (λh _ _ _ _ ra=>.inr (.inl ((ra:u=_)▸(S.read h).lst.elim λxs y=>y.1.typeIs))) (λh _ _ _ _ ra=>.inr (.inr ((ra:u=_)▸(S.read h).dict))) ra
end
theorem xB{M:Ub}{A:Rg}{s:QT}{E:QS->QT->Prop}{u:QS}{Q:Bool->QT->Prop}(ht:s.TypeIs u "tuple"\/s.TypeIs u "list"\/s.TypeIs u "dict")(h:Q false s):wpAny M A (getitemInPython u) Q E s:=
 ht.elim (λt=>Vp t.not_modules▸QM (Ta t V5.lookup (QV h))) λht=>ht.elim (λt=>Vp t.not_modules▸QM (Ta t slot_list_getitem.lookup (QV h)))
  λt=>Vp t.not_modules▸QM (Ta t WB.lookup (QV h))
theorem bq.kv{sc:RE}{e:E}{z:QL}(m:bq sc e z):kV z=kE e:=QQ (kT.getD · 0) (Vq (ae m).1)
theorem BY e:Uu (kE e) 2=false:=by cases e<;>exact rfl
theorem bq.odd{sc:RE}{e:E}{z:QL}(m:bq sc e z):pS z=false:=(QQ (Uu · 2) m.kv).trans (BY e)
theorem nn{a b:Bool}(h:a=false)(k:b=false):(!(a||b))=true:=by subst h;subst k;rfl
theorem bq.plain{sc:RE}{e:E}{z:QL}(m:bq sc e z)(h:Uu (kE e) 1=false):hZ z=true:=(QQ (λn=>!(Uu n 1||Uu n 2)) m.kv).trans (nn h (BY e))
theorem Gs{k:QL}(h:pS k=false)(o i):subscripted k false o i=operate [o,i] (T4 o i):=by
 cases k with
 |Slice lo hi st p=>exact ff h.symm
 |_=>rfl
theorem GC{a:QL}(h:pS a=false) env l:V6 (a::l) env=(false,eval a env)::V6 l env:=by
 cases a with
 |Starred x p=>exact ff h.symm
 |_=>rfl
theorem zl{sc:RE}{env:Env}:∀{es:Es}{l:List QL},cK sc es l->V6 l env=l.map λe=>(false,eval e env)
 |.nil,_,m=>m.nil▸rfl
 |.cons e es,_,m=>m.cons λv vs m ms=>(GC m.odd env vs).trans (QQ _ (zl ms))
def K2(c:Cx)(b:E)(F:V->V->Map->Prop)(v:V)(σ:Map):Prop:=Ev c b σ (F v)
section
variable{c:Cx}{σ φ:Map}{s:QT}{Q:V->Map->Prop}{F:V->V->Map->Prop}{A:Rg}{env:Env}{sc:RE}{a b:E}{x y:QL}
theorem Ev.two(h:Ev c a σ (K2 c b F))(t:At c A env sc φ)(ma:bq sc a x)(mb:bq sc b y)(S:ag c.B σ φ s){G:QS->QS->QT->Prop}
  (k:∀u w s2 v v' σ2,F v v' σ2->ak s2.heap v u->ak s2.heap v' w->ag c.B σ2 φ s2->ax s.heap s2.heap->G u w s2):
  wpAny c.B.M A (eval x env) (λu s1=>wpAny c.B.M A (eval y env) (G u) (Px c.B φ (atAny env) c.X) s1) (Px c.B φ (atAny env) c.X) s:=
 aG (h A env sc φ s x t ma S) (λu s1 P=>P.elim λv σ1 h1 r1 S1 tk=>aG (h1 A env sc φ s1 y t mb S1) (λw s2 P=>P.elim λv' σ2 q r2 S2 tk2=>k u w s2 v v' σ2 q (r1.mono tk2) r2 S2 (tk.trans tk2)))
theorem At.un(t:At c A env sc φ):A.units+300<cLine:=QO (TH (Ra _ _) (by decide)) t.fy
theorem Bv{h₀:Rn}{B:Bs}{E:QS->QT->Prop}{t:Sem QS}{us:List QS}{z:QL}{o:QS}(tk:ax h₀ s.heap)(h:wpAny B.M A t (aA B φ s.heap Q) E s):wpAny B.M A (operate us t>>=λr=>ZS z o r>>=λ_=>pure r) (aA B φ h₀ Q) E s:=QM (wpAny_operating (aG h (λr s2 h2=>QM (VH (QV (aA.after tk h2))))))
theorem Ev.idx(h:Ev c a σ (K2 c b λv k σ=>KGet c.B Q σ v k)):Ev c (.idx a b) σ Q:=λA env sc φ s z t m S=>fK.inv m.b λo k p m=>have m:=ae m;V7 ..▸
 QM (aG (h.two t m.1 m.2 S λu w s2 v v' σ2 K r1 r2 S2 tk=>QM (Sf (QM (xB (K.type S2 r1) (Gs (bq.odd m.2) u w▸Bv tk (L4 t.un S2 K r1 r2)))))) (λu s1 h1=>QM (RA h1)))
end
section
variable{B:Bs}{σ φ:Map}{s:QT}{A:Rg}{E:QS->QT->Prop}{Q:V->Map->Prop}
theorem qb{us:List QS}{xs:List QI}(S:ag B σ φ s)(r:Sn s.heap us xs [])(ok:aP (.tuple xs)=true)(q:Q (.d (.tuple xs)) σ):aA B φ s.heap Q (.ref s.heap.objs.size) {s with heap:=s.heap.push {cls:=.type "tuple",data:=.seq us.toArray}}:=
 have k:∀a o,s.heap.get? a=some o->(s.heap.push {cls:=.type "tuple",data:=.seq us.toArray}).get? a=some o:=λ_ _ e=>QY _ e
 ⟨.d (.tuple xs),σ,q,⟨ok,FJ ⟨_,RS _ rfl,rfl,0,rfl⟩ (sg (.of k) r rfl (eK ok).2)⟩,S.more k,.of k⟩
theorem qc{us:List QS}{l:List V}(S:ag B σ φ s)(r:ai (ak s.heap) l us)(q:∀a,σ a=none->Q (.r a) (σ.put a (.lst l))):aA B φ s.heap Q (.ref s.heap.objs.size) {s with heap:=s.heap.push {cls:=.type "list",data:=.seq us.toArray}}:=
 have k:=λ_ _ e=>QY _ e;have n:=Ru (Rl _)
 ⟨.r s.heap.objs.size,_,q _ (S.fresh n).1,rfl,S.new k n λtk=>⟨_,RS _ rfl,.of (v:=.type "list") rfl (by decide),rfl,rfl,us.toArray,0,rfl,jw tk r⟩,.of k⟩
def small(i:Int):Prop:=-(2^62)<i/\i<2^62
inductive cL B(Q:V->Map->Prop) σ:SX->V->V->Prop
 |add {i j:Int}:Q (.d (.int (i+j))) σ->cL B Q σ .Add (.d (.int i)) (.d (.int j))
 |sub {i j:Int}:Q (.d (.int (i -j))) σ->cL B Q σ .Sub (.d (.int i)) (.d (.int j))
 |mul {i j:Int}:small i->small j->Q (.d (.int (i*j))) σ->cL B Q σ .Mult (.d (.int i)) (.d (.int j))
 |div {i j:Int}:0<j->j<1000000000->Q (.d (.int (i.fdiv j))) σ->cL B Q σ .FloorDiv (.d (.int i)) (.d (.int j))
 |mod {i j:Int}:0<j->Q (.d (.int (i.fmod j))) σ->cL B Q σ .Mod (.d (.int i)) (.d (.int j))
 |shl {i j:Int}:0<=j->j<40->small i->Q (.d (.int (i*2^j.toNat))) σ->cL B Q σ .LShift (.d (.int i)) (.d (.int j))
 |or {i j:Int}:Q (.d (.int (WH i j))) σ->cL B Q σ .BitOr (.d (.int i)) (.d (.int j))
 |str {x y:Str}:x.length+y.length<ah->aP (.str (x++y))=true->Q (.d (.str (x++y))) σ->cL B Q σ .Add (.d (.str x)) (.d (.str y))
 |tup {xs ys:List QI}:aP (.tuple (xs++ys))=true->Q (.d (.tuple (xs++ys))) σ->cL B Q σ .Add (.d (.tuple xs)) (.d (.tuple ys))
 |lst {a b:Q5} {l k:List V}:Rd B σ a (.lst l)->Rd B σ b (.lst k)->l.length+k.length<ah->(∀r,σ r=none->Q (.r r) (σ.put r (.lst (l++k))))->cL B Q σ .Add (.r a) (.r b)
theorem JK{i j:Int}(hi:small i)(hj:small j):IntMulOk i j:=by
 obtain ⟨a,b⟩:=hi;obtain ⟨c,d⟩:=hj
 mul_fits
theorem l5{op:SX}{i j r:Int}{u w:QS}(S:ag B σ φ s)(ra:ak s.heap (.d (.int i)) u)(rb:ak s.heap (.d (.int j)) w)(q:Q (.d (.int r)) σ)
  (h:∀t t',(∀d n t,aA B φ s.heap Q (.int r t) ⟨s.heap,s.gens,d,n,s.os⟩)->wpAny B.M A (V8 op (.int i t) (.int j t')) (aA B φ s.heap Q) E s):wpAny B.M A (V8 op u w) (aA B φ s.heap Q) E s:=
 ra.rd.elim λt e=>e▸rb.rd.elim λt' e=>e▸h t t' λd n t=>aA.now S (iy r t) q
theorem str0{z:Str}(h:z.length=0):z=⟨#[]⟩:=QQ Str.mk (Vt h)
theorem vl{h:Rn}{t:Q5}{us:Array QS}(ht:h.IsTuple t us):∃dd sl n,h.get? t=some {cls:=.type "tuple",dict:=dd,data:=.seq us n,slots:=sl}:=ht.elim λo y=>y.2.2.elim λn z=>⟨o.dict,o.slots,n,y.1.trans (QQ some (by obtain ⟨c,d,dt,sl⟩:=o;obtain rfl:c=_:=y.2.1;obtain rfl:dt=_:=z;rfl))⟩
theorem w4{h:Rn}{t:Q5}{us:Array QS}(ht:h.IsList t us):∃dd sl n,h.get? t=some {cls:=.type "list",dict:=dd,data:=.seq us n,slots:=sl}:=ht.elim λo y=>y.2.2.elim λn z=>⟨o.dict,o.slots,n,y.1.trans (QQ some (by obtain ⟨c,d,dt,sl⟩:=o;obtain rfl:c=_:=y.2.1;obtain rfl:dt=_:=z;rfl))⟩
theorem Gv{x y:Str}{t t':Tok}(S:ag B σ φ s)(hx:aP (.str x)=true)(hy:aP (.str y)=true)(sz:x.length+y.length<ah)(ok:aP (.str (x++y))=true)(q:Q (.d (.str (x++y))) σ):wpAny B.M A (V8 .Add (.str x t) (.str y t')) (aA B φ s.heap Q) E s:=by
 refine P.add_str ?_;by_cases h1:x.length=0
 ·refine aa (QR (by simpa using h1)) ?_
  exact aA.now S (mX hy _) (show x++y=y by refine aa (str0 h1) ?_;obtain ⟨c⟩:=y;refine (?_:Str.mk (#[]++c)=_);simp▸q)
 ·refine aa (QP (by simpa using h1)) ?_
  by_cases h2:y.length=0
  ·refine aa (QR (by simpa using h2)) ?_
   exact aA.now S (mX hx _) (show x++y=x by refine aa (str0 h2) ?_;obtain ⟨c⟩:=x;refine (?_:Str.mk (c++#[])=_);simp▸q)
  ·refine aa (QP (by simpa using h2)) ?_
   exact ⟨QN (R4 (show(x.cps++y.cps).size=_ from Array.size_append)) (QN (VY sz) uQ),aA.now S (mX ok _) q⟩
end
section
variable{B:Bs}{σ φ:Map}{s:QT}{A:Rg}{E:QS->QT->Prop}{Q:V->Map->Prop}
theorem jv{h:Rn}{l:List V}{us:Array QS}(x:ai (ak h) l us.toList):l.length=us.size:=x.length.trans RG
theorem qm:1000<=TG:=by refine aa VI ?_;decide
theorem FF{xs ys:List QI}{u w:QS}(S:ag B σ φ s)(ra:ak s.heap (.d (.tuple xs)) u)(rb:ak s.heap (.d (.tuple ys)) w)(ok:aP (.tuple (xs++ys))=true)(q:Q (.d (.tuple (xs++ys))) σ):wpAny B.M A (V8 .Add u w) (aA B φ s.heap Q) E s:=by
 refine ao ra.rd λa us ya=>ao rb.rd λb vs yb=>ya.1▸yb.1▸az (vl ya.2.1) λdd sl n ho=>az (vl yb.2.1) λdd2 sl2 n2 ho2=>?_;by_cases hv:us.toList=[]
 ·have e:=(mz (hv▸ya.2.2) rfl:)
  exact Xa ⟨_,ho,rfl⟩ ⟨_,ho2,rfl⟩ WR Yb Ve U6 (UT _ _) (tuple_addW0 a b us vs n n2 dd dd2 sl sl2 (by simpa using hv)) ⟨ho,ho2,aA.now S (yb.1▸rb) ((show xs++ys=ys from e▸rfl)▸q)⟩
 ·by_cases hw:vs.toList=[]
  ·have e:=(mz (hw▸yb.2.2) rfl:)
   exact Xa ⟨_,ho,rfl⟩ ⟨_,ho2,rfl⟩ WR Yb Ve U6 (UT _ _) (tuple_addW1 a b us vs n n2 dd dd2 sl sl2 (by simpa using hv) (by simpa using hw)) ⟨ho,ho2,aA.now S (ya.1▸ra) ((e▸SI xs:xs++ys=xs)▸q)⟩
  ·have l:us.size+vs.size<=TG:=by
    have l1:=fV ya.2.2;have l2:=fV yb.2.2;have l3:=(eK ok).1;rw [Q2] at l3;rw [RG] at l1 l2;exact QN (by lia) qm
   exact Xa ⟨_,ho,rfl⟩ ⟨_,ho2,rfl⟩ WR Yb Ve U6 (UT _ _) (tuple_addW2 a b us vs n n2 dd dd2 sl sl2 (by simpa using hv) (by simpa using hw) l) ⟨ho,ho2,
    (show us++vs=(us.toList++vs.toList).toArray by simp)▸qb S (Hq yb.2.2 ya.2.2 rfl) ok q⟩
theorem Km{a b:Q5}{l k:List V}(S:ag B σ φ s)(ra:Rd B σ a (.lst l))(rb:Rd B σ b (.lst k))(sz:l.length+k.length<ah)(q:∀r,σ r=none->Q (.r r) (σ.put r (.lst (l++k)))):wpAny B.M A (V8 .Add (.ref a) (.ref b)) (aA B φ s.heap Q) E s:=
 (S.read ra).lst.elim λus ya=>(S.read rb).lst.elim λvs yb=>az (w4 ya.1) λdd sl n ho=>az (w4 yb.1) λdd2 sl2 n2 ho2=>
  Xa ⟨_,ho,rfl⟩ ⟨_,ho2,rfl⟩ noFill_list_add seq_list_add PySem.F.slot_list_add PySem.F.entry_list_add (PySem.F.args_list_add_2 _ _) (list_addW a b us vs n n2 dd dd2 sl sl2 (jv ya.2▸jv yb.2▸QN (VY sz) uQ)) ⟨ho,ho2,
    (show us++vs=(us.toList++vs.toList).toArray by simp)▸qc S (ya.2.append yb.2) q⟩
theorem O5{op:SX}{v v':V}{u w:QS}(S:ag B σ φ s)(K:cL B Q σ op v v')(ra:ak s.heap v u)(rb:ak s.heap v' w):wpAny B.M A (V8 op u w) (aA B φ s.heap Q) E s:=
 @cL.casesOn B Q σ (λop v v' _=>ak s.heap v u->ak s.heap v' w->wpAny B.M A (V8 op u w) (aA B φ s.heap Q) E s) op v v' K
  (λq ra rb=>l5 S ra rb q λt t' h=>P.add_int (h _ _ _)) (λq ra rb=>l5 S ra rb q λt t' h=>P.sub_int (h _ _ _)) (λh1 h2 q ra rb=>l5 S ra rb q λt t' h=>P.mul_int (h _ _ _) (JK h1 h2))
  (λh1 h2 q ra rb=>l5 S ra rb q λt t' h=>floordiv_int (abd h1) (h _ _ _) (.inl (PyProof.noPylong_small (R5.mp ((Int.natAbs_of_nonneg (abf h1)).symm▸Uh h2 (by decide)))))) (λh1 q ra rb=>l5 S ra rb q λt t' h=>mod_int' (abd h1) (h _ _ _))
  (λh1 h2 h3 q ra rb=>l5 S ra rb q λt t' h=>lshift_int_small h1 (by omega) (by unfold small at h3;omega) (h _ _ _)) (λq ra rb=>l5 S ra rb q λt t' h=>or_int (h _ _ _))
  (λh1 h2 q ra rb=>ra.rd.elim λt e=>e▸rb.rd.elim λt' e'=>e'▸Gv S ra.1 rb.1 h1 h2 q) (λh1 q ra rb=>FF S ra rb h1 q) (λh1 h2 h3 q ra rb=>ra▸rb▸Km S h1 h2 h3 q) ra rb
end
section
variable{c:Cx}{σ φ:Map}{s:QT}{Q:V->Map->Prop}{a b:E}
theorem Ev.bin{op:SX}(h:Ev c a σ (K2 c b λv k σ=>cL c.B Q σ op v k)):Ev c (.bin op a b) σ Q:=λA env sc φ s z t m S=>kj.inv m.b λx o y p m=>have m:=dG m;eq_of_beq m.1▸
 wpAny_BinOp (h.two t m.2.1 m.2.2 S λu w s2 v v' σ2 K r1 r2 S2 tk=>aG (O5 S2 K r1 r2) (λ_ _ P=>P.after tk))
def Qd(Q:V->Map->Prop)(v:V)(σ:Map):Prop:=∃i,v=.d (.int i)/\Q (.d (.int (-i))) σ
theorem Ev.neg(h:Ev c a σ (Qd Q)):Ev c (.neg a) σ Q:=λA env sc φ s z t m S=>kg.inv m.b λo x p m=>have m:=ae m;eq_of_beq m.1▸
 wpAny_UnaryOp (aG (h A env sc φ s x t m.2 S) (λu s1 O=>O.elim λv σ1 k r S1 tk=>k.elim λi y=>(show ak s1.heap (.d (.int i)) u from y.1▸r).rd.elim λt e=>e▸P.neg_int (aA.after tk (aA.now S1 (iy _ _) y.2))))
end
theorem Pb p env(l:List QL):Y6 p (l.map λe=>(false,eval e env))=l.map λe=>(false,eval e env):=Ui.trans rfl
theorem fS{sc:RE}{env:Env}{es:Es}{l:List QL}(m:cK sc es l) p:Y6 p (V6 l env)=l.map λe=>(false,eval e env):=(QQ (Y6 p) (zl m)).trans (Pb p env l)
def KL(c:Cx)(es:Es)(Q:List V->Map->Prop)(v:V)(σ:Map):Prop:=cM c es σ λvs σ=>Q (v::vs) σ
def P9(Q:V->Map->Prop)(vs:List V)(σ:Map):Prop:=∃ds,vs=ds.map V.d/\aP (.tuple ds)=true/\Q (.d (.tuple ds)) σ
def Qe(Q:V->Map->Prop)(vs:List V)(σ:Map):Prop:=vs.length<=1000/\∀a,σ a=none->Q (.r a) (σ.put a (.lst vs))
def Qc(n:Nat)(Q:V->Map->Prop)(v:V)(σ:Map):Prop:=∀a,σ a=none->Q (.r a) (σ.put a (.lst (Q4 n v)))
theorem pK{h:Rn}:∀{ds:List QI}{us:List QS},ai (ak h) (ds.map V.d) us->Sn h us ds []
 |[],_,x=>match x with|.nil=>.nil
 |_::_,_,x=>match x with|.cons r t=>.cons r.2 (pK t)
theorem CF{α:Type} u:∀(m:Nat)(acc:Array α),List.foldl (λx1 x2=>x1++x2) acc (Q4 m #[u])=acc++(Q4 m u).toArray
 |0,acc=>by simp
 |m+1,acc=>(CF u m _).trans (by apply Array.ext';simp [List.replicate_succ])
theorem ai.rep{α β:Type}{R:α->β->Prop}{a:α}{b:β}(r:R a b):∀m:Nat,ai R (Q4 m a) (Q4 m b)
 |0=>.nil
 |m+1=>.cons r (ai.rep r m)
section
variable{c:Cx}{σ φ:Map}{s:QT}{Q:V->Map->Prop}{e:E}{es:Es}
theorem cM.nil{Q:List V->Map->Prop}(q:Q [] σ):cM c .nil σ Q:=λA env sc φ s l t m S=>m.nil▸U7 ⟨[],σ,q,.nil,S,.refl _⟩
theorem cM.cons{Q:List V->Map->Prop}(h:Ev c e σ (KL c es Q)):cM c (.cons e es) σ Q:=λA env sc φ s l t m S=>m.cons λv vs m ms=>Uj (RF (h A env sc φ s v t m S)
 (λu s1 P=>P.elim λx σ1 k r S1 tk=>aG (k A env sc φ s1 vs t ms S1) (λus s2 P=>P.elim λxs σ2 q rs S2 tk2=>⟨x::xs,σ2,q,.cons (r.mono tk2) rs,S2,tk.trans tk2⟩)) λ_ _ z=>z)
theorem Ev.tup(h:cM c es σ (P9 Q)):Ev c (.tup es) σ Q:=λA env sc φ s z t m S=>lW.inv m.b λl i p m=>have m:=ae m;wpAny_Tuple (fS m.2 p▸RF (h A env sc φ s l t m.2 S)
 (λus s1 P=>P.elim λvs σ1 k r S1 tk=>k.elim λds k=>have rs:=pK (k.1▸r);⟨QN (fV rs▸(eK k.2.1).1) qm,aA.after tk (qb S1 rs k.2.1 k.2.2)⟩) λ_ _ z=>z)
theorem Ev.lst(h:cM c es σ (Qe Q)):Ev c (.lst es) σ Q:=λA env sc φ s z t m S=>ki.inv m.b λl p m=>have m:=ae m;wpAny_List (fS m.2 p▸RF (h A env sc φ s l t m.2 S)
 (λus s1 P=>P.elim λvs σ1 k r S1 tk=>⟨QN (r.length▸k.1) qm,aA.after tk (qc S1 r k.2)⟩) λ_ _ z=>z)
theorem JL{prog:RU}{w:Sz}{A:Rg}{E':QS->QT->Prop}{s:QT}{l:Q5}{items:Array QS}{k:Nat}{x:Int}{u:Tok}{Q:QS->QT->Prop}(hl:s.heap.get? l=some {cls:=.type "list",dict:=none,data:=.seq items k,slots:=#[]})
  (hlo:-(2^63:Int)<=x) (hhi:x<2^63) (hsz:items.size*x.toNat<=2^24)
  (h:Q (.ref s.heap.objs.size) {s with heap:=s.heap.push {cls:=.type "list",data:=.seq (List.foldl (λx1 x2=>x1++x2) #[] (Q4 (if items.isEmpty=true then 0 else x.toNat) items))}}):wpAny (model prog w) A (V8 .Mult (.ref l) (.int x u)) Q E' s:=
 wpAny_binaryOp_repeat_ref (by decide) ⟨_,hl,rfl⟩ (λs'=>typeIs_int s' x u) noFill_list_mul PySem.F.fills_int_mul Xo repeat_list PySem.F.slot_int_index.lookup
  (Xb Xo (typeIs_int s x u) PySem.F.entry_int_rmul (PySem.F.args_int_rmul_2 _ _) (int___rmul___int_list x u l items k)
   ⟨hl,rfl,⟨_,hl,rfl⟩,Xb PySem.F.slot_list_mul ⟨_,hl,rfl⟩ PySem.F.entry_list_mul (PySem.F.args_list_mul_2 _ _)
    (AutoListH.list___mul___list_int_3 l items k x u (by simp [ZT];lia) (by lia) (by simp [aan,TG];lia))
    ⟨hl,h⟩⟩)
theorem Ev.rep{n:Nat}(h:Ev c e σ (Qc n Q)):Ev c (.rep e n) σ Q:=λA env sc φ s z t m S=>kj.inv m.b λl o y p m=>ki.inv m λl r m=>a8.inv m λv m=>have m:=cV m;eq_of_beq m.1▸gS.inv m.2.2.2 λi j=>wpAny_BinOp (wpAny_List (fS (es:=.cons e .nil) (.one m.2.2.1) r▸Uj (RF (h A env sc φ s v t m.2.2.1 S)
 (λu s1 P=>P.elim λx σ1 k r S1 tk=>U7 ⟨QN (by decide:1<=1000) qm,Yi (JL (RS _ rfl) (by lia) (by lia) (show 1*_<=_ by have:=Q0 m.2.1;lia)
  (show aA c.B φ s.heap Q _ _ from(CF u n #[]).trans Array.empty_append▸aA.after (tk.trans (.of λ_ _ e=>QY _ e)) (qc
   (S1.more λ_ _ e=>QY _ e) (ai.rep (r.mono (.of λ_ _ e=>QY _ e)) n) k)))⟩) λ_ _ z=>z)))
end
section
variable{prog:RU}{w:Sz}{K:Type}[DecidableEq K]{knd:KeyKind prog w K}{A:Rg}{E:QS->QT->Prop}{s:QT}
theorem xR{α:Type}(a:Array α) p:a.findIdx? p=a.toList.findIdx? p:=by obtain ⟨l⟩:=a;simp
theorem Gw{kvs:List (K×QS)}{k:K}{v:QS}{i:Nat}(hi:(kvs.findIdx? λkv=>decide (kv.1=k))=some i):Y7 kvs k v=kvs.map λkv=>if kv.1=k then(kv.1,v) else kv:=QR (any_of_findIdx_some hi)
theorem Gx{kvs:List (K×QS)}{k:K}{v:QS}(h:k∉kvs.map (·.1)):Y7 kvs k v=kvs++[(k,v)]:=QP λq=>(Y8.mp q).elim λkv y=>h (Su.mpr ⟨kv,y.1,Q0 y.2⟩)
theorem Nw{d:Q5}{kvs:List (K×QS)}{k:K}{key v:QS}{Q:Unit->QT->Prop}(hkey:knd.is k key=true)(hm:s.heap.DictAt knd d kvs kvs.length)
  (hQ:∀h',h'.DictAt knd d (Y7 kvs k v) (Y7 kvs k v).length->Sr d s.heap h'->Q () {s with heap:=h',toks:=s.toks+1}) (hsz:kvs.length<=TG):
  wpAny (model prog w) A (dictSet d key v) Q E s:=by
 refine ao hm λo es ⟨ho,hc,hd,hk,hp,hn⟩=>?_;have hes:=(RG.symm.trans hp.length).symm▸hsz;unfold dictSet
 try with_reducible refine RA ?_
 refine QM (knd.pyHash hkey ?_);unfold dictSetHashed
 try with_reducible refine RA ?_
 refine QM (YK hkey ho hd hk ?_);have hidx:=(xR es _).trans (hp.findIdx k);generalize hi:(es.findIdx? λe=>knd.is k e.key)=r
 cases r with
 |some i=>
  have hst:=Gw (v:=v) (hidx.symm.trans hi);have hlen:=hst▸QX _
  refine QM (Uz (QM (wpAny_updateDict ho hd (Xx (hQ _ ⟨_,_,RR _ ho (UM (Y9 hd _)),
   hc.mapDict _,by refine aa hlen ?_;exact Y9 hd _,hk.modify _ _,?_,?_⟩ (RW ..))))))
  ·refine aa hst ?_
   have hl:=(xR es _).symm.trans hi;exact Array.toList_modify ..▸hp.modify hn hl v
  ·(refine aa hst ?_;rewrite [keys_map_store]);exact hn
 |none=>
  have hnot:=WS (hidx.symm.trans hi);have hst:=Gx (v:=v) hnot;have hlen:(Y7 kvs k v).length=kvs.length+1:=hst▸Q2
  refine QM (Uz (VJ (hz:=hes) ho hd (hQ _ ⟨_,_,RR _ ho (UM (Tj hd _)),
   hc.mapDictKeys _,by refine aa hlen ?_;exact Tj hd _,hk.push hkey _,?_,?_⟩ (RW ..))))
  ·refine aa hst ?_
   exact (Uw:(es.push _).toList=_)▸hp.append hkey (knd.hash k) v
  ·refine aa hst (aa Rq ?_)
   exact S7.mpr ⟨hn,RV _ _,λa ha b hb e=>hnot ((QW.mp hb:b=k)▸e▸ha)⟩
end
section
variable{α K:Type}[DecidableEq K]{R:QI×V->α->Prop}{f:K->QI}{key:α->K}{upd:α->α}{k:K}{x:V}{new:α}{l:List (QI×V)}{kvs:List α}
theorem vS{p:QI×V}{k:QI}:putD (p::l) k x=if p.1=k then(k,x)::l else p::putD l k x:=rfl
theorem sq{k:QI}:(putD l k x).length<=l.length+1:=l.rec (Rl _) λp t ih=>by
 refine aa vS ?_;by_cases e:p.1=k
 ·refine aa (QR e) ?_;exact RI _
 ·refine aa (QP e) ?_;exact QU ih
def sk(key:α->K)(upd:α->α)(new:α)(k:K)(kvs:List α):List α:=kvs.rec [new] λq t r=>if key q=k then upd q::t else q::r
theorem Aj(inj:∀a b,f a=f b->a=b)(hk:∀p q,R p q->p.1=f (key q))(hu:∀p q,R p q->key q=k->R (f k,x) (upd q))(hn:R (f k,x) new)(r:ai R l kvs):ai R (putD l (f k) x) (sk key upd new k kvs):=
 r.rec (.cons hn .nil) λ{a b as bs} r t ih=>by
  refine aa vS ?_;refine (?_:ai R _ (if key b=k then _ else _));by_cases e:key b=k
  ·refine aa (QR e) (aa (QR ((hk a b r).trans (QQ f e))) ?_);exact .cons (hu a b r e) t
  ·refine aa (QP e) (aa (QP λq=>e (inj _ _ ((hk a b r).symm.trans q))) ?_);exact .cons r ih
theorem Am(nd:(kvs.map key).Nodup):sk key upd new k kvs=if kvs.any (λq=>decide (key q=k)) then kvs.map (λq=>if key q=k then upd q else q) else kvs++[new]:=by
 induction kvs with
 |nil=>rfl
 |cons q t ih=>
  have nd:=Tp.mp nd;refine (?_:(if key q=k then _ else _)=_);by_cases e:key q=k
  ·refine aa (QR e) (aa (QR (Y8.mpr ⟨q,.head _,Rc e⟩)) (aa Ut (aa (QR e) ?_)))
   exact QQ _ ((RX λy hy=>QP λ(e':key y=k)=>nd.1 ((e'.trans e.symm)▸SM hy)).trans (List.map_id t)).symm
  ·rewrite [QP e,aao,Rm e,Bool.false_or,Ut,QP e,Vv]
   exact (QQ (q::·) (ih nd.2)).trans (apply_ite (q::·) ..)
theorem Gy{K:Type}[DecidableEq K]{xs:List (K×QS)}{k:K}{v:QS}(nd:(xs.map (·.1)).Nodup):Y7 xs k v=sk (·.1) (λq=>(q.1,v)) (k,v) k xs:=(Am nd).symm
theorem Iu{K:Type}[DecidableEq K]{xs:List (K×Q5×QS)}{k:K}{a:Q5}{v:QS}(nd:(xs.map (·.1)).Nodup):storedH xs k a v=sk (·.1) (λq=>(q.1,q.2.1,v)) (k,a,v) k xs:=(show storedH xs k a v=_ by unfold storedH atKey;refine aa Option.isSome_map (aa (List.isSome_find?) ?_);rfl).trans (Am nd).symm
end
def dY(B:Bs)(φ:Map)(h₀:Rn)(Q:Map->Prop)(s:QT):Prop:=∃σ,Q σ/\ag B σ φ s/\ax h₀ s.heap
section
variable{B:Bs}{σ φ:Map}{s:QT}{A:Rg}{E:QS->QT->Prop}{a:Q5}{l:List (QI×V)}{k:QI}{u:QS}{v:V}
theorem ag.tup{c₀:Cell}{h':Rn}(S:ag B σ φ s)(e:σ a=some c₀)(hs:Sr a s.heap h'):ax s.heap h':=S.rel.tup (bh e) hs
theorem sj{c c₀:Cell}{h':Rn}{tk:Nat}{Q:Map->Prop}(S:ag B σ φ s)(e:σ a=some c₀)(hs:Sr a s.heap h')(x:ax s.heap h'->B.aW h' a c)(q:Q (σ.put a c)):dY B φ s.heap Q {s with heap:=h',toks:=tk}:=⟨_,q,S.put e hs x,S.tup e hs⟩
theorem oy{t:Nat}{h':Rn}{o:Obj}{es:Array TA}{ep:Nat}(g:h'.get? a=some o)(x:o.ExactDict)(d:o.data=.dict es ep)(n:l.length<=ah)(D:iT B.prog B.w h' es ep t l):B.aW h' a (.aj t l):=⟨o,g,.of x.1 (by decide),x,n,es,ep,d,D⟩
theorem vb{K:Type}{f:K->QI}{h h':Rn}(k:ax h h'){kvs:List (K×QS)}(x:ai (λ(p:QI×V) q=>p.1=f q.1/\ak h p.2 q.2) l kvs):ai (λ(p:QI×V) q=>p.1=f q.1/\ak h' p.2 q.2) l kvs:=x.imp λ_ _ z=>⟨z.1,z.2.mono k⟩
theorem y5{K:Type}[DecidableEq K]{f:K->QI}(inj:∀a b,f a=f b->a=b){h:Rn}{kvs:List (K×QS)}{i:K}{w:QS}(nd:(kvs.map (·.1)).Nodup)(r:ak h v w)(x:ai (λ(p:QI×V) q=>p.1=f q.1/\ak h p.2 q.2) l kvs):
  ai (λ(p:QI×V) q=>p.1=f q.1/\ak h p.2 q.2) (putD l (f i) v) (Y7 kvs i w):=Gy nd▸Aj inj (λ_ _ z=>z.1) (λ_ _ z e=>⟨QQ f e.symm,r⟩) ⟨rfl,r⟩ x
theorem ij{n m:Nat}(h:m<ah)(e:m=n):n<=TG:=e▸QN (VY h) uQ
theorem Dk{w:QS}{t:Nat}{Q:Map->Prop}(rm:A.units+100<cLine)(S:ag B σ φ s)(e:σ a=some (.aj t l))(sz:l.length<ah)(rv:ak s.heap v w):∀{t':Nat}(y:gA s.heap k u t')(ht:t=0\/t=t')(q:Q (σ.put a (.aj t' (putD l k v)))),wpAny B.M A (dictSet a u w) (λ_ s'=>dY B φ s.heap Q s') E s
 |1,y,ht,q=>ao y λi tk z=>(S.l e).elim λo g=>ao g.2.2.2.2 λes ep x=>z.2▸(x.2.kind y ht).elim λee D=>D.elim λkvs D=>
   have n:=D.2.2.2.length
   Nw (Yk _ _ i tk) ⟨o,es,g.1,g.2.2.1,(ee.trans n)▸x.1,D.1,D.2.1,D.2.2.1⟩ (λh' hd hs=>ao hd λo' es' y'=>sj S e hs (λtk=>
    have al:=z.1▸y5 cj D.2.2.1 (rv.mono tk) (vb tk D.2.2.2)
    oy (t:=1) y'.1 y'.2.1 y'.2.2.1 (QN sq sz) ⟨al.length.symm,_,y'.2.2.2.1,y'.2.2.2.2.1,y'.2.2.2.2.2,al⟩) q) (ij sz n)
 |2,y,ht,q=>ao y λi tk z=>(S.l e).elim λo g=>ao g.2.2.2.2 λes ep x=>z.2▸(x.2.kind y ht).elim λkvs D=>
   wpAny_dictSet_pairs (strKind_is _ _ i tk) ⟨o,es,ep,g.1,g.2.2.1,x.1,D.1,D.2.1,D.2.2.1⟩ (λh' hd hs=>az hd λo' es' ep' y'=>sj S e hs (λtk=>
    oy (t:=2) y'.1 y'.2.1 y'.2.2.1 (QN sq sz) ⟨_,y'.2.2.2.1,y'.2.2.2.2.1,y'.2.2.2.2.2,z.1▸y5 str_inj D.2.2.1 (rv.mono tk) (vb tk D.2.2.2)⟩) q) (ij sz D.2.2.2.length)
 |_+3,y,ht,q=>y.elim λb z=>(S.l e).elim λo g=>ao g.2.2.2.2 λes ep x=>z.1▸(x.2.kind y ht).elim λkvs D=>
   wpAny_dictSet_heap (show A.units+40<cLine from room rm (by decide)) z.2 ⟨o,es,ep,g.1,g.2.2.1,x.1,D.1,D.2.1,D.2.2.1⟩ (λh' hd hs=>az hd λo' es' ep' y'=>sj S e hs (λtk=>
    oy (t:=_+3) y'.1 y'.2.1 y'.2.2.1 (QN sq sz) ⟨_,y'.2.2.2.1,y'.2.2.2.2.1,y'.2.2.2.2.2,(Iu D.2.2.1)▸Aj (λ_ _ e=>e) (λ_ _ z=>z.1) (λ_ _ z e=>⟨e.symm,rv.mono tk⟩) ⟨rfl,rv.mono tk⟩ (D.2.2.2.imp λ_ _ z=>⟨z.1,z.2.mono tk⟩)⟩) q) (ij sz D.2.2.2.length)
end
section
variable{B:Bs}{σ φ φ' η:Map}{s:QT}{a:Q5}{c:Cell}
def Sub(φ φ':Map):Prop:=∀a c,φ a=some c->φ' a=some c
theorem Sub.put(n:φ a=none):Sub φ (φ.put a c):=λb d e=>(QP λq=>nomatch(q▸e).symm.trans n:φ.put a c b=φ b).trans e
theorem join_none(n:φ a=none)(m:η a=none):(φ.join η) a=none:=(bf n).trans m
theorem fX{G:Prop}{d:Cell}(e:(φ.join η) a=some d)(l:φ a=some d->G)(r:φ a=none->η a=some d->G):G:=if q:φ a=none then r q ((bf q).symm.trans e) else(Rw.mp q).elim λx y=>l (y.trans ((bh y).symm.trans e))
theorem ag.move(S:ag B σ (φ.put a c) s)(n:φ a=none):ag B (σ.put a c) φ s:=
 have na:=S.dm Map.a7
 ⟨S.rel.less λb d e=>fX e (λl=>if q:b=a then(by subst q;exact (bf na).trans (Map.a7.trans (Map.a7.symm.trans l))) else bh ((Map.aO q).symm.trans l)) λl r=>have q:=λq=>nomatch(q▸l).symm.trans Map.a7;(bf ((Map.aO q).symm.trans l)).trans ((Map.aO q).trans r),
  λb q=>have h:b≠a:=λe=>q (e▸n);(Map.aO h).trans (S.cA b ((Map.aO h).symm▸q))⟩
theorem Px.less{ph:Option QS->Prop}{X:QI->QI->Map->Prop}{e:QS}(w:Sub φ φ')(x:Px B φ' ph X e s):Px B φ ph X e s:=cm x λc a σ η y x=>⟨c,a,σ,η,y,x.1,x.2.1,x.2.2.1,x.2.2.2.1.less λb d e=>fX e (λl=>bh (w b d l)) λl r=>(bf (x.2.2.2.2 b (r▸Q1 _))).trans r,λb q=>Q9.mpr λd g=>nomatch(w b d g).symm.trans (x.2.2.2.2 b q)⟩
theorem Var.more{env:Env}{x:String}{v:V}(w:Sub φ φ')(h:Var env φ x v):Var env φ' x v:=h.imp (λy=>y.imp_right λy=>y.imp λ_ z=>⟨w _ _ z.1,z.2⟩) λy=>y.imp_right λy=>y.imp λ_ z=>⟨z.1,w _ _ z.2⟩
theorem eG.more{l:List Env}(w:Sub φ φ')(h:eG φ l):eG φ' l:=λenv m=>(h env m).imp_right λy=>y.imp λ_ y=>y.imp λ_ z=>⟨z.1,w _ _ z.2⟩
theorem Tb.more{x:Q5}{ph:Option QS->Prop}{tb:QS}(w:Sub φ φ')(h:Tb φ x ph tb):Tb φ' x ph tb:=h.imp_right λy=>y.imp λ_ y=>y.imp λ_ y=>y.imp λ_ y=>y.imp λ_ z=>⟨z.1,z.2.1,w _ _ z.2.2.1,z.2.2.2⟩
theorem jH.more{exc x:Q5}{p q:QI}{ph:Option QS->Prop}(w:Sub φ φ')(h:jH exc φ x p q ph):jH exc φ' x p q ph:=⟨h.it.imp λ_ y=>y.imp λ_ y=>y.imp λ_ y=>y.imp λ_ y=>y.imp λ_ z=>⟨w _ _ z.1,z.2.1,z.2.2.1,z.2.2.2.1,z.2.2.2.2.1,z.2.2.2.2.2.1.more w,w _ _ z.2.2.2.2.2.2.1,z.2.2.2.2.2.2.2⟩⟩
theorem At.more{c:Cx}{A:Rg}{env:Env}{sc:RE}(w:Sub φ φ')(t:At c A env sc φ):At c A env sc φ':=⟨t.fe.imp λ_ y=>y.imp λ_ z=>⟨z.1,z.2.1,z.2.2.more w⟩,t.dep,t.fy,t.hd,t.fn,t.fN,t.bN,t.gl,t.bj,λx v i e=>(t.var x v i e).more w,λy p q e=>(t.oh y p q e).imp λ_ y=>y.imp λ_ z=>⟨z.1.more w,z.2.more w⟩⟩
end
inductive oR(Q:Map->Prop)(σ:Map):V->V->V->Prop
 |lst {a:Q5} {l:List V} {j:Int} {x:V}:σ a=some (.lst l)->0<=j->j<ah->j.toNat<l.length->Q (σ.put a (.lst (l.set j.toNat x)))->oR Q σ (.r a) (.d (.int j)) x
 |aj {a:Q5} {t t':Nat} {l:List (QI×V)} {k:QI} {x:V}:σ a=some (.aj t l)->kd k=t'->t'≠0->t=0\/t=t'->l.length<ah->Q (σ.put a (.aj t' (putD l k x)))->oR Q σ (.r a) (.d k) x
theorem A8{o:Obj}{xs:Array QS}{n:Nat}(h:o.data=.seq xs n) f:(o.mapSeq f).dict=o.dict:=by obtain ⟨c,d,dt,sl⟩:=o;obtain rfl:dt=_:=h;rfl
section
variable{B:Bs}{σ φ:Map}{s:QT}{A:Rg}{E:QS->QT->Prop}{a:Q5}
theorem wY{h:Rn}{o:Obj}{l:List V}{xs:Array QS}{n:Nat}(g:h.get? a=some o)(c:o.cls=.type "list")(d:o.dict=none)(e:o.data=.seq xs n)(r:ai (ak h) l xs.toList):B.aW h a (.lst l):=⟨o,g,.of c (by decide),c,d,xs,n,e,r⟩
theorem zN{c₀:Cell}{l:List V}{f:Array QS->Array QS}{xs:Array QS}{n:Nat}{o:Obj}{Q:Map->Prop}(S:ag B σ φ s)(e:σ a=some c₀)(ho:s.heap.get? a=some o)(hc:o.cls=.type "list")(hn:o.dict=none)(hd:o.data=.seq xs n)
  (r:ax s.heap (s.heap.update a (Xc f))->ai (ak (s.heap.update a (Xc f))) l (f xs).toList) (q:Q (σ.put a (.lst l))):dY B φ s.heap Q {s with heap:=s.heap.update a (Xc f)}:=
 (Zx hd f).elim λn' hd'=>sj S e (RW ..) (λtk=>wY (RR _ ho (Ym hd')) ((ZU ..).trans hc) ((A8 hd f).trans hn) hd' (r tk)) q
end
section
variable{B:Bs}{σ φ:Map}{s:QT}{A:Rg}{E:QS->QT->Prop}{Q:Map->Prop}{v i x:V}{u k y:QS}{a:Q5}
theorem GZ{l:List V}{j:Int}{t:Tok}(S:ag B σ φ s)(e:σ a=some (.lst l))(h0:0<=j)(h1:j<ah)(h2:j.toNat<l.length)(r:ak s.heap x y)(q:Q (σ.put a (.lst (l.set j.toNat x)))):wpAny B.M A (WI (.ref a) (.int j t) y) (λ_ s'=>dY B φ s.heap Q s') E s:=by
 refine (S.l e).elim λo g=>ao g.2.2.2.2 λus n z=>?_;have hT:s.TypeIs (.ref a) "list":=⟨o,g.1,g.2.2.1⟩;unfold PySem.setItem
 try with_reducible refine RA ?_
 first|refine QM (QV ?_)|skip
 refine QM (Vd hT (by decide) (QM (SR hT YL (Se YL hT entry_list_setitem ?_ (args_list_setitem _ _ _)))));refine (?_:wpAny _ _ (ZO (.int j t)>>=_) _ _ s);refine QM (wpAny_listSubscript_int (fitsIndex_of h0 (Uh h1 uR)) ?_)
 clear h1
 obtain ⟨j,rfl⟩:=Int.eq_ofNat_of_zero_le h0;have hj:=z.2.length.trans RG▸h2;refine QM (QM (wpAny_seqItemAt g.1 z.1 (QV ?_)));refine aa (Wq hj) ?_;have P:dY B φ s.heap Q {s with heap:=s.heap.update a (Xc (·.setIfInBounds j y))}:=zN S e g.1 g.2.2.1 g.2.2.2.1 z.1 (λtk=>(Array.toList_setIfInBounds:(us.setIfInBounds j y).toList=_)▸(jw tk z.2).set (r.mono tk) j) q;refine QM (wpAny_setSeqItemAt g.1 z.1 ?_)
 first
  |exact QM (QV (QV ⟨.none,rfl,QV P⟩))
  |exact QV ⟨.none,rfl,QV P⟩
theorem G1{t t':Nat}{l:List (QI×V)}{k:QI}(rm:A.units+300<cLine)(S:ag B σ φ s)(e:σ a=some (.aj t l))(e1:kd k=t')(n:t'≠0)(ht:t=0\/t=t')(sz:l.length<ah)(rk:ak s.heap (.d k) u)(r:ak s.heap x y)(q:Q (σ.put a (.aj t' (putD l k x)))):
  wpAny B.M A (WI (.ref a) u y) (λ_ s'=>dY B φ s.heap Q s') E s:=by
 have hT:=(S.l e).dict;unfold PySem.setItem
 try with_reducible refine RA ?_
 refine QM (Vd hT (by decide) (QM (SR hT YM (Se YM hT entry_dict_setitem ?_ (args_dict_setitem _ _ _)))));refine QM (Xp hT ?_);refine (?_:wpAny _ _ (dictSet a u y>>=_) _ _ s);exact QM (aG (Dk (show A.units+1+100<cLine by lia) S e sz r (gA.of rk e1 n) ht q) (λ_ s' P=>QV ⟨.none,rfl,QV P⟩))
theorem G2(rm:A.units+300<cLine)(S:ag B σ φ s)(K:oR Q σ v i x)(ra:ak s.heap v u)(rb:ak s.heap i k)(rx:ak s.heap x y):wpAny B.M A (WI u k y) (λ_ s'=>dY B φ s.heap Q s') E s:=
 @oR.casesOn Q σ (λv i x _=>ak s.heap v u->ak s.heap i k->ak s.heap x y->wpAny B.M A (WI u k y) (λ_ s'=>dY B φ s.heap Q s') E s) v i x K
  (λe h0 h1 h2 q ra rb rx=>ra▸rb.rd.elim λt z=>z▸GZ S e h0 h1 h2 rx q) (λe e1 n ht sz q ra rb rx=>ra▸G1 rm S e e1 n ht sz rb rx q) ra rb rx
end
noncomputable def pN(env:Env)(pos:Pos):List (Option QL)->List QL->List (Sem QS×Sem QS)
 |some k::ks,v::vs=>(eval k env,do let x←eval v env;standAt pos;pure x)::pN env pos ks vs
 |_,_=>[]
def En(h:Rn)(p:QI×V)(q:QS×QS):Prop:=ak h (.d p.1) q.1/\ak h p.2 q.2
def P4(B:Bs)(φ:Map)(h₀:Rn)(Q:List (QI×V)->Map->Prop)(us:List (QS×QS))(s:QT):Prop:=∃vs σ,Q vs σ/\ai (En s.heap) vs us/\ag B σ φ s/\ax h₀ s.heap
def iS(c:Cx)(es:Es)(σ:Map)(Q:List (QI×V)->Map->Prop):Prop:=∀(A:Rg) env sc φ s ks vs pos,At c A env sc φ->eO sc es ks vs->ag c.B σ φ s->
 wpAny c.B.M A (evalPairs (pN env pos ks vs)) (P4 c.B φ s.heap Q) (Px c.B φ (atAny env) c.X) s
def KP(c:Cx)(e:E)(es:Es)(Q:List (QI×V)->Map->Prop)(v:V)(σ:Map):Prop:=∃k,v=.d k/\Ev c e σ λw σ=>iS c es σ λl σ=>Q ((k,w)::l) σ
section
variable{c:Cx}{σ φ:Map}{s:QT}{Q:List (QI×V)->Map->Prop}
theorem iS.nil(q:Q [] σ):iS c .nil σ Q:=λA env sc φ s ks vs pos t m S=>m.nil.1▸m.nil.2▸evalPairs_nil ⟨[],σ,q,.nil,S,.refl _⟩
theorem iS.cons{e e':E}{es:Es}(h:Ev c e σ (KP c e' es Q)):iS c (.cons e (.cons e' es)) σ Q:=λA env sc φ s ks vs pos t m S=>m.cons λk ks v vs m1 m2 ms=>evalPairs_cons (RF (h A env sc φ s k t m1 S)
 (λu s1 P=>P.elim λx σ1 q r S1 tk=>q.elim λx' q=>QM (aG (q.2 A env sc φ s1 v t m2 S1) (λu' s2 P=>P.elim λy σ2 q2 r2 S2 tk2=>QM (Sf (QV (RF (q2 A env sc φ s2 ks vs pos t ms S2)
  (λus s3 P=>ao P λl σ3 z=>⟨(x',y)::l,σ3,z.1,.cons ⟨((q.1▸r:).mono tk2).mono z.2.2.2,r2.mono z.2.2.2⟩ z.2.1,z.2.2.1,(tk.trans tk2).trans z.2.2.2⟩) λ_ _ z=>z)))))) λ_ _ z=>z)
end
theorem lD{σ:Map}{a:Q5}{c d:Cell}:(σ.put a c).put a d=σ.put a d:=funext λb=>if e:b=a then(QR e).trans (QR e).symm else(QP e).trans ((QP e).trans (QP e).symm)
theorem Im{σ:Map}{a:Q5}{c:Cell}(h:σ a=some c):σ.put a c=σ:=funext λb=>if e:b=a then(QR e).trans (e▸h.symm) else QP e
def table(acc l:List (QI×V)):List (QI×V):=l.foldl (λr p=>putD r p.1 p.2) acc
theorem Aq{sc:RE}{env:Env}{pos:Pos}:∀{es:Es}{ks:List (Option QL)}{vs:List QL},eO sc es ks vs->
  (evalEachOpt ks env).zip ((evalEach vs env).map λv=>do let x←v;standAt pos;pure x)=(pN env pos ks vs).map (λp=>(some p.1,p.2))/\(pN env pos ks vs).length=ks.length
 |.nil,_,_,h=>h.nil.1▸h.nil.2▸⟨rfl,rfl⟩
 |.cons _ .nil,_,_,h=>h.odd.elim
 |.cons a (.cons b r),_,_,h=>h.cons λk ks v vs _ _ m=>(Aq m).imp (λi=>QQ (XU _) i) λi=>QQ TX i
section
variable{B:Bs}{φ:Map}{A:Rg}{E:QS->QT->Prop}{D:Q5}{T:Nat}{Q:Map->Prop}
theorem storeAll(rm:A.units+100<cLine)(n:T≠0):∀{l:List (QI×V)}{us:List (QS×QS)}{acc:List (QI×V)}{t:Nat}{s:QT}{σ:Map},(∀p∈l,kd p.1=T)->(t=0\/t=T)->(l=[]->t=T)->acc.length+l.length<ah->ai (En s.heap) l us->ag B σ φ s->σ D=some (.aj t acc)->
  Q (σ.put D (.aj T (table acc l)))->wpAny B.M A (forIn us adU λ(x:QS×QS) _=>(do dictSet D x.1 x.2;pure (TT adU):Sem (ForInStep PUnit))) (λ_ s'=>dY B φ s.heap Q s') E s:=by
 intro l;induction l with
 |nil=>exact λ{us acc t s σ} al ht ht' sz r S e q=>by cases r;refine aa List.forIn_nil ?_;exact QV ⟨σ,Im (ht' rfl▸e)▸q,S,.refl _⟩
 |cons p l ih=>exact λ{us acc t s σ} al ht _ sz r S e q=>by obtain ⟨k,v⟩:=p;cases r with|cons r rs=>rewrite [Zy];exact QM (QM (aG (Dk rm S e (QO (Ra _ _) sz) r.2 (gA.of r.1 (al (k,v) (.head _)) n) ht rfl) (λ_ s1 P=>QV (P.elim λσ1 P=>
   RF (ih (λp hp=>al p (.tail _ hp)) (.inr rfl) (λ_=>rfl) (QO (QN (Ri sq _) (R4 (UU ..))) sz) (rs.imp λ_ _ z=>⟨z.1.mono P.2.2,z.2.mono P.2.2⟩) P.2.1 (P.1▸Map.a7) (P.1▸lD.symm▸q))
    (λ_ s2 P2=>SY (λ_ y=>⟨y.1,y.2.1,P.2.2.trans y.2.2⟩) P2) λ_ _ z=>z))))
end
def Qk(Q:V->Map->Prop)(l:List (QI×V))(σ:Map):Prop:=∃T,T≠0/\l≠[]/\l.length<=12/\(∀p∈l,kd p.1=T)/\∀a,σ a=none->Q (.r a) (σ.put a (.aj T (table [] l)))
section
variable{c:Cx}{σ φ:Map}{s:QT}{Q:V->Map->Prop}
theorem Di{B:Bs}{h:Rn}{t:Nat}:B.aW (h.push {cls:=.type "dict",data:=.dict #[]}) h.objs.size (.aj t []):=oy (RS _ rfl) ⟨rfl,rfl,rfl⟩ rfl (Rr _) (.empty t)
theorem Ev.yd{t:Nat}(q:∀a,σ a=none->Q (.r a) (σ.put a (.aj t []))):Ev c (.aj .nil) σ Q:=λA env sc φ s z t m S=>nM.inv m.b λks vs p m=>have m:=eO.nil (sc:=sc) (ae m).2;m.1▸m.2▸arm_eval_Dict ..▸QM (Sf (show wpAny _ _ newDict _ _ _ from
 have k:=λ_ _ e=>QY _ e;have n:=Ru (Rl _)
 Sg ⟨.r _,_,q _ (S.fresh n).1,rfl,S.new k n λ_=>Di,.of k⟩))
theorem Ev.aj{e:E}{es:Es}(h:iS c (.cons e es) σ (Qk Q)):Ev c (.aj (.cons e es)) σ Q:=λA env sc φ s z t m S=>nM.inv m.b λks vs p m=>by
 have md:eO sc (.cons e es) ks vs:=(ae m).2;have H:=Aq (env:=env) (pos:=p) md;have hl:=H.2▸Q0 (ae m).1
 have h0:pN env p ks vs≠[]:=λe=>by
  have:=H.2.symm.trans (QQ Zr e);obtain rfl:=WT.mp this;exact md.ne
 have k:∀a o,s.heap.get? a=some o->(s.heap.push {cls:=.type "dict",data:=.dict #[]}).get? a=some o:=λ_ _ e=>QY _ e;have n:s.heap.get? s.heap.objs.size=none:=Ru (Rl _)
 (rewrite [arm_eval_Dict];refine aa H.1 (aa (dictDisplay_pairs _ h0 (by omega)) ?_))
 refine QM (Sf (QM ?_));refine QM (wpAny_alloc (QM (RA ?_)));refine aa (QR (by omega)) ?_;have w:Sub φ (φ.put s.heap.objs.size (.aj 0 [])):=.put (S.fresh n).2
 refine QM (RF (h A env sc _ _ ks vs p (t.more w) md (S.p9 k n λ_=>Di)) (λps s1 P=>RA (QM (ao P λl σ1 P=>P.1.elim λT q=>
  aG (storeAll (room t.un (by decide)) q.1 q.2.2.2.1 (.inl rfl) (λe=>absurd e q.2.1) (by refine aa Zz ?_;exact QO (QN (R4 (Sv _)) q.2.2.1) (by decide)) P.2.1 (P.2.2.1.move (S.fresh n).2) Map.a7 rfl) (λ_ s2 P2=>QV (QV (QV (P2.elim λσ2 P2=>
   ⟨.r _,_,P2.1▸lD.symm▸q.2.2.2.2 _ (P.2.2.1.dm Map.a7),rfl,P2.2.1,((ax.of k).trans P.2.2.2).trans P2.2.2⟩))))))) λ_ _ x=>x.less w)
end
theorem ai.mem{α β:Type}{R:α->β->Prop}{as:List α}{bs:List β}(x:ai R as bs):∀a∈as,∃b,R a b:=x.rec (λa h=>nomatch h) λ{_ b _ _} r _ ih a h=>(QZ.mp h).elim (λe=>⟨b,e▸r⟩) (ih a)
theorem oH:∀{xs:List QI},(∀d∈xs,aP d=true)->YF xs=true/\UX xs<=30
 |[],_=>⟨rfl,Rr _⟩
 |x::xs,h=>have i:=oH λd m=>h d (.tail _ m);⟨Q8.mpr ⟨iK x (eM (h x (.head _))),i.1⟩,PyData.depthAll.eq_2 ..▸T5.mpr ⟨hW (h x (.head _)),i.2⟩⟩
def mG(B:Bs)(σ:Map)(v:V)(d:QI):Prop:=v=.d d\/∃a xs,v=.r a/\Rd B σ a (.lst (xs.map V.d))/\d=.list xs
section
variable{B:Bs}{σ φ:Map}{s:QT}{A:Rg}{E:QS->QT->Prop}{v v':V}{u w:QS}{d e:QI}{a:Q5}
theorem um{xs:List QI}(x:B.aW s.heap a (.lst (xs.map V.d))):UN s.heap (.ref a) (.list xs) [a]/\∀d∈xs,aP d=true:=x.elim λo y=>ao y.2.2.2.2 λus n z=>⟨.list y.1 y.2.2.1 z.1 (pK z.2),λd m=>(z.2.mem _ (SM m)).elim λ_ r=>r.1⟩
def Lay(h:Rn)(u:QS)(d:QI):Prop:=∃as,UN h u d as/\d.canLay0=true/\d.depth<=31
theorem mG.rd(S:ag B σ φ s)(k:mG B σ v d)(r:ak s.heap v u):Lay s.heap u d:=k.elim (λe=>have r:=(e▸r:ak s.heap (.d d) u);⟨[],r.2,iK d (eM r.1),RQ (hW r.1)⟩)
 λk=>ao k λa xs k=>k.2.2▸r.ref k.1▸have y:=um (S.read k.2.1);⟨[a],y.1,(oH y.2).1,(by rewrite [Ug];exact QU (oH y.2).2)⟩
noncomputable def tT(v:V):Bool:=v.casesOn (λd=>d.casesOn true (λ_=>false) (λ_=>false) (λ_=>false) (λ_=>false) (λ_=>false) λ_=>false) (λ_=>false) false
theorem B5{h:Rn}(r:ak h v u):(u==Tq)=tT v:=by
 have ne:∀{u:QS},u≠.none->(u==Tq)=false:=Q3.mpr
 cases v with
 |d x=>cases x with
  |none=>exact r.rd▸beq_self_eq_true _
  |bool b=>exact r.rd▸ne λe=>nomatch e
  |int i=>exact r.rd.elim λt e=>e▸ne λe=>nomatch e
  |str i=>exact r.rd.elim λt e=>e▸ne λe=>nomatch e
  |tuple xs=>exact r.rd.elim λt e=>e.elim λ_ e=>e.1▸ne λe=>nomatch e
  |list _=>exact r.rd.elim
  |dict _=>exact r.rd.elim
 |r a=>exact r▸ne λe=>nomatch e
 |bb=>exact r.elim λt e=>e▸ne λe=>nomatch e
inductive cu B σ:Wz->V->V->Bool->Prop
 |eq {v v':V} {d e:QI}:mG B σ v d->mG B σ v' e->cu B σ .Eq v v' (Rk d e)
 |Nc {xs:List QI}:cu B σ .Eq .bb (.d (.tuple xs)) false
 |ne {v v':V} {d e:QI}:mG B σ v d->mG B σ v' e->cu B σ .NotEq v v' (!Rk d e)
 |lt {i j:Int}:cu B σ .Lt (.d (.int i)) (.d (.int j)) (decide (i<j))
 |le {i j:Int}:cu B σ .LtE (.d (.int i)) (.d (.int j)) (decide (i<=j))
 |gt {i j:Int}:cu B σ .Gt (.d (.int i)) (.d (.int j)) (decide (j<i))
 |ge {i j:Int}:cu B σ .GtE (.d (.int i)) (.d (.int j)) (decide (j<=i))
 |is {v:V}:cu B σ .Is v (.d .none) (tT v)
 |Lu {v:V}:cu B σ .IsNot v (.d .none) (!tT v)
 |cz {x:QI} {ys:List QI}:cu B σ .In (.d x) (.d (.tuple ys)) (ys.any λy=>Rk y x)
 |LH {a:Q5} {x:QI} {ys:List QI}:Rd B σ a (.lst (ys.map V.d))->cu B σ .In (.d x) (.r a) (ys.any λy=>Rk y x)
 |LG {x y:Str}:cu B σ .In (.d (.str x)) (.d (.str y)) (!(Tn y x 0 y.length 1).isEmpty)
 |inD {a:Q5} {k:QI} {t t':Nat} {l:List (QI×V)}:Rd B σ a (.aj t l)->kd k=t'->t'≠0->t=0\/t=t'->cu B σ .In (.d k) (.r a) (getD l k).isSome
 |Jv {x:QI} {ys:List QI}:cu B σ .NotIn (.d x) (.d (.tuple ys)) (!ys.any λy=>Rk y x)
 |Jw {a:Q5} {x:QI} {ys:List QI}:Rd B σ a (.lst (ys.map V.d))->cu B σ .NotIn (.d x) (.r a) (!ys.any λy=>Rk y x)
 |Jx {a:Q5} {k:QI} {t t':Nat} {l:List (QI×V)}:Rd B σ a (.aj t l)->kd k=t'->t'≠0->t=0\/t=t'->cu B σ .NotIn (.d k) (.r a) (!(getD l k).isSome)
theorem ag.mods{c:Cell}(S:ag B σ φ s)(x:Rd B σ a c):(a==To)=false:=Q3.mpr (x.elim (λx e=>B.mods (e▸S.rel.out a c (bh x))) (B.zY a c))
theorem Dy{t t':Nat}{l:List (QI×V)}{k:QI}{Q:Bool->QT->Prop}(rm:A.units+300<cLine)(S:ag B σ φ s)(x:Rd B σ a (.aj t l))(e:kd k=t')(n:t'≠0)(ht:t=0\/t=t')(r:ak s.heap (.d k) u)(q:∀tk,Q (getD l k).isSome {s with toks:=tk}):wpAny B.M A (contains (.ref a) u) Q E s:=by
 have hT:=(S.read x).dict;unfold contains
 try with_reducible refine RA ?_
 refine QM (Ta hT V9.lookup ?_);refine aa (QP (by rw [Y3];exact SD)) ?_;refine QM (wpAny_callSpecialUnlessNone?_slot hT V9 (Se V9 hT entry_dict_contains ?_ (args_dict_contains _ _)));refine (?_:wpAny _ _ (dictGet a u>>=_) _ _ s);refine QM (x7 (show A.units+1+100<cLine by lia) (S.read x) (gA.of r e n) ht λr tk g=>?_);have q:=q tk;generalize getD l k=m at g q
 cases m with
 |some p=>
  refine Q7 g λw g=>g.1▸?_;exact QV ⟨_,rfl,Vf q⟩
 |none=>
  refine g▸?_;exact QM (wpAny_pendingKey_other (S.mods x) (QV ⟨_,rfl,Vf q⟩))
end
end
section
open _root_.PySem _root_.PySem.Calls PyProof.Rows
open scoped Classical
open MeetsSeq SeqAt
namespace FB
theorem owner_bytes:Manifest.owners.lookup (VA ['s','e','t','y','b'].reverse)=some Manifest.sig_bytes:=by kernel_rfl
theorem slot_bytes_eq:Slot "bytes" (cmpInfo .Eq).2.1 "bytes.__eq__":=
 .of (owner:="bytes") (n:="__eq__") (by(rewrite [Tc];refine aa R9 ?_);kernel_rfl) (by decide+kernel) (by decide+kernel) (by decide+kernel)
  (by first|exact .inl (by decide+kernel)|exact .inr (by decide+kernel)) (by rewrite [Wa];kernel_rfl)
theorem entry_bytes_eq:WU Ud "bytes.__eq__"=some Builtin.«bytes.__eq__»:=Za (by kernel_rfl)
theorem args_bytes_eq_2(a b):argsOk "bytes.__eq__" ⟨[a,b],[]⟩:=by
 unfold argsOk;refine aa (signature?_of (n:=['_','_','q','e','_','_']) (by kernel_rfl) owner_bytes) ?_;kernel_rfl
theorem sub_tuple_bytes:isSubtype (.type "tuple") (.type "bytes")=pure false:=by rewrite [Wa];kernel_rfl
theorem sub_bytes_tuple:isSubtype (.type "bytes") (.type "tuple")=pure false:=by rewrite [Wa];kernel_rfl
theorem typeIs_bytes(s:QT) b t:s.TypeIs (.bytes b t) "bytes":=rfl
end FB
open AutoSeq1 (wpAny_loadPart') in
theorem OX b t l items n dd sl:
  Meets (Builtin.«bytes.__eq__» ⟨[.bytes b t,.ref l],[]⟩) (λ_ R s=>s.heap.get? l=some {cls:=.type "tuple",dict:=dd,data:=.seq items n,slots:=sl}/\R (.ok (.ret .notImplemented)) s):=
 .of_wp λprog w A R s h=>by
  obtain ⟨hp,g,d,tk,os⟩:=s;obtain ⟨hl,h⟩:=h;have f1:=FB.sub_tuple_bytes;have hT:aaq ⟨hp,g,d,tk,os⟩ (.ref l) "tuple":=⟨_,hl,rfl⟩;wp_walk using VO hl;exact ⟨_,rfl,h⟩
open AutoSeq1 (wpAny_loadPart') in
theorem FG l items n dd sl b u:
  Meets (Builtin.«tuple.__eq__» ⟨[.ref l,.bytes b u],[]⟩) (λ_ R s=>s.heap.get? l=some {cls:=.type "tuple",dict:=dd,data:=.seq items n,slots:=sl}/\R (.ok (.ret .notImplemented)) s):=
 .of_wp λprog w A R s h=>by obtain ⟨hp,g,d,tk,os⟩:=s;obtain ⟨hl,h⟩:=h;have f1:=FB.sub_bytes_tuple;wp_walk using VO hl;exact ⟨_,rfl,h⟩
section
variable{B:Bs}{σ φ:Map}{s:QT}{A:Rg}{E:QS->QT->Prop}{G:QS->QT->Prop}
theorem Nb{b:Array UInt8}{t:Tok}{l:Q5}{items:Array QS}(rm:A.units+300<cLine)(hl:s.heap.IsTuple l items)(h:G (.bool false) s):wpAny B.M A (XV .Eq (.bytes b t) (.ref l)) G E s:=
 az (vl hl) λdd sl n ho=>show wpAny _ A (richCompare .Eq _ _) G E s from rc_eq_decline_or (k:=false) (FB.typeIs_bytes s b t) ⟨_,ho,rfl⟩ (by decide) FB.sub_tuple_bytes FB.slot_bytes_eq Wb
  (λ_ hq=>Xb FB.slot_bytes_eq (FB.typeIs_bytes s b t) FB.entry_bytes_eq (FB.args_bytes_eq_2 _ _) (OX b t l items n dd sl) ⟨ho,hq⟩)
  (λ_ hq=>Xb Wb ⟨_,ho,rfl⟩ PySem.F.entry_tuple_eq (PySem.F.args_tuple_eq_2 _ _) (FG l items n dd sl b t) ⟨ho,hq⟩)
  (λ_ hq=>QV hq) (.inr (QO (Ra ..) rm)) h
theorem zZ{a m n:Nat}(h:a+300<cLine)(l:n<=31):a+min m n<cLine:=QO (Rj (QN (Zb ..) (QN l (by decide))) a) h
theorem pI{a m n:Nat}(h:a+300<cLine)(l:n<=30):a+1+min m n<cLine:=SO ..▸QO (Rj (QN (Rj (QN (Zb ..) l) 1) (by decide)) a) h
theorem ur{op:Wz}{i j:Int}{b:Bool}{u w:QS}(ra:ak s.heap (.d (.int i)) u)(rb:ak s.heap (.d (.int j)) w)(h:∀t t',wpAny B.M A (XV op (.int i t) (.int j t')) G E s):wpAny B.M A (XV op u w) G E s:=ra.rd.elim λt e=>e▸rb.rd.elim λt' e=>e▸h t t'
theorem DI{op:Wz}{v v':V}{t:Bool}{u w:QS}(rm:A.units+300<cLine)(S:ag B σ φ s)(K:cu B σ op v v' t)(ra:ak s.heap v u)(rb:ak s.heap v' w)(q:∀tk,G (.bool t) {s with toks:=tk}):wpAny B.M A (XV op u w) G E s:=
 @cu.casesOn B σ (λop v v' t _=>ak s.heap v u->ak s.heap v' w->(∀tk,G (.bool t) {s with toks:=tk})->wpAny B.M A (XV op u w) G E s) op v v' t K
  (λk k' ra rb q=>Q7 (k.rd S ra) λ_ x=>Q7 (k'.rd S rb) λ_ y=>compareEq_reads x.1 y.1 x.2.1 y.2.1 (zZ rm y.2.2) (q s.toks))
  (λra rb q=>Q7 ra λ_ e=>e▸ao rb.rd λ_ _ y=>y.1▸Nb rm y.2.1 (q s.toks))
  (λk k' ra rb q=>Q7 (k.rd S ra) λ_ x=>Q7 (k'.rd S rb) λ_ y=>compareNe_reads x.1 y.1 x.2.1 y.2.1 (zZ rm y.2.2) (q s.toks))
  (λra rb q=>ur (b:=true) ra rb λ_ _=>P.lt_int (q s.toks)) (λra rb q=>ur (b:=true) ra rb λ_ _=>P.le_int (q s.toks)) (λra rb q=>ur (b:=true) ra rb λ_ _=>P.gt_int (q s.toks)) (λra rb q=>ur (b:=true) ra rb λ_ _=>P.ge_int (q s.toks))
  (λra rb q=>rb.rd▸is_none (B5 ra▸q s.toks)) (λra rb q=>rb.rd▸isNot_none (B5 ra▸q s.toks))
  (λra rb q=>in_tuple_reads rb.2 ra.2 (uv _ (eK rb.1).2) (iK _ (eM ra.1)) (pI rm (hW ra.1)) (q s.toks))
  (λx ra rb q=>have y:=um (S.read x);rb▸in_list_reads y.1 ra.2 (oH y.2).1 (iK _ (eM ra.1)) (pI rm (hW ra.1)) (q s.toks))
  (λra rb q=>ra.rd.elim λ_ e=>e▸rb.rd.elim λ_ e=>e▸P.in_str (q s.toks))
  (λx e n ht ra rb q=>rb▸show wpAny B.M A (contains _ u>>=λb=>pure (adX b):Sem QS) G E s from QM (Dy rm S x e n ht ra λtk=>QV (q tk)))
  (λra rb q=>notIn_tuple_reads rb.2 ra.2 (uv _ (eK rb.1).2) (iK _ (eM ra.1)) (pI rm (hW ra.1)) (q s.toks))
  (λx ra rb q=>have y:=um (S.read x);rb▸notIn_list_reads y.1 ra.2 (oH y.2).1 (iK _ (eM ra.1)) (pI rm (hW ra.1)) (q s.toks))
  (λx e n ht ra rb q=>rb▸show wpAny B.M A (contains _ u>>=λb=>pure (adX (!b)):Sem QS) G E s from QM (Dy rm S x e n ht ra λtk=>QV (q tk))) ra rb q
end
theorem A6{op:Wz}{r:QL}(h:pS r=false):behindInMarks op r=false:=by
 cases r with
 |Set _ _ _=>exact ff h.symm
 |_=>rfl
section
variable{c:Cx}{σ φ:Map}{a b:E}
theorem Ev.cmp{Q:V->Map->Prop}{op:Wz}(h:Ev c a σ (K2 c b λv k σ=>∃t,cu c.B σ op v k t/\Q (.d (.bool t)) σ)):Ev c (.cmp op a b) σ Q:=λA env sc φ s z t m S=>nO.inv m.b λx o y p m=>have m:=ae m;a8.inv m.1 λo e=>eq_of_beq e▸a8.inv m.2 λy m=>have m:=ae m;
 wpAny_Compare1 (h.two t m.1 m.2 S λu w s2 v v' σ2 K r1 r2 S2 tk=>K.elim λb K=>DI t.un S2 K.1 r1 r2 λ_=>aA.after tk (aA.now S2 (D6 b) K.2)) (A6 (bq.odd m.2))
theorem Ts.cmp{Q:Bool->Map->Prop}{op:Wz}(h:Ev c a σ (K2 c b λv k σ=>∃t,cu c.B σ op v k t/\Q t σ)):Ts c (.cmp op a b) σ Q:=λA env sc φ s z t m S=>nO.inv m.b λx o y p m=>have m:=ae m;a8.inv m.1 λo e=>eq_of_beq e▸a8.inv m.2 λy m=>have m:=ae m;
 wpAny_isTrue_Compare1 (h.two t m.1 m.2 S λu w s2 v v' σ2 K r1 r2 S2 tk=>K.elim λb K=>DI t.un S2 K.1 r1 r2 λ_=>Vf ⟨σ2,K.2,S2.same,tk⟩) (A6 (bq.odd m.2))
end
end
section
open _root_.PySem _root_.PySem.Calls PyProof.Rows
open scoped Classical
def uJ(v:V)(b:Bool):Prop:=v.casesOn (λd=>d.casesOn (b=false) (λx=>b=x) (λi=>b=(i !=0)) (λ_=>False) (λ_=>False) (λxs=>b=!xs.isEmpty) λ_=>False) (λ_=>False) False
def uT(Q:Bool->Map->Prop)(v:V)(σ:Map):Prop:=∃b,uJ v b/\Q b σ
noncomputable def stop(op:V2):Bool:=op.casesOn false true
def KB(T:Map->Prop)(op:V2)(Q:Bool->Map->Prop)(b:Bool)(σ:Map):Prop:=(b=stop op->Q b σ)/\(b=!stop op->T σ)
def gX(c:Cx)(op:V2)(es:Es)(σ:Map)(Q:Bool->Map->Prop):Prop:=∀(A:Rg) env sc φ s l,At c A env sc φ->cK sc es l->ag c.B σ φ s->wpAny c.B.M A (allTrue op l env) (gu c.B φ s.heap Q) (Px c.B φ (atAny env) c.X) s
def g5(c:Cx)(op:V2)(es:Es)(σ:Map)(Q:V->Map->Prop):Prop:=∀(A:Rg) env sc φ s l p,At c A env sc φ->cK sc es l->ag c.B σ φ s->wpAny c.B.M A (boolOp p op (evalEach l env)) (aA c.B φ s.heap Q) (Px c.B φ (atAny env) c.X) s
def KV(c:Cx)(op:V2)(es:Es)(Q:V->Map->Prop)(v:V)(σ:Map):Prop:=∃b,uJ v b/\(b=stop op->Q v σ)/\(b=!stop op->g5 c op es σ Q)
def oV(T F:Map->Prop)(b:Bool)(σ:Map):Prop:=(b=true->T σ)/\(b=false->F σ)
section
variable{B:Bs}{σ φ:Map}{s:QT}{A:Rg}{E:QS->QT->Prop}{G:Bool->QT->Prop}{v:V}{b:Bool}{u:QS}
theorem empty_eq{h:Rn}{us:Array QS}{xs:List QI}(r:Sn h us.toList xs []):us.isEmpty=xs.isEmpty:=by
 have e:=fV r;rw [RG] at e;refine (?_:decide (us.size=0)=_);refine aa e ?_
 cases xs<;>rfl
theorem zk(t:uJ v b)(r:ak s.heap v u)(q:∀tk,G b {s with toks:=tk}):wpAny B.M A (truthy u) G E s:=by
 cases v with
 |d x=>cases x with
  |none=>exact r.rd▸truthy_none (t▸q s.toks)
  |bool x=>exact r.rd▸Vf (t▸q s.toks)
  |int i=>exact r.rd.elim λ_ e=>e▸P.truthy_int (t▸q s.toks)
  |tuple xs=>exact ao r.rd λa us y=>y.1▸truthy_tuple y.2.1 (SE (RZ.mpr (RG▸fV y.2.2▸(eK r.1).1)) (by decide)) ((t.trans (QQ _ (empty_eq y.2.2).symm))▸q _)
  |_=>exact t.elim
 |_=>exact t.elim
end
section
variable{c:Cx}{σ φ:Map}{s:QT}{e:E}{es:Es}{op:V2}
theorem Ts.of{Q:Bool->Map->Prop}(p:∀{sc:RE}{z:QL}{env:Env}{w:Sem QS},bq sc e z->isTrue z env w=(do let v←w;standAt z.pos;YB [v] (truthy v)))(h:Ev c e σ (uT Q)):Ts c e σ Q:=λA env sc φ s z t m S=>
 wpAny_isTrue_value (aG (h A env sc φ s z t m S) (λu s1 P=>P.elim λv σ1 k r S1 tk=>k.elim λb k=>zk k.1 r λ_=>⟨σ1,k.2,S1.same,tk⟩)) (p m)
theorem Ts.lv{Q:Bool->Map->Prop}{x:String}(h:Ev c (.lv x) σ (uT Q)):Ts c (.lv x) σ Q:=.of (λm=>lX.inv (ae m.b).1 λ_ _ _=>rfl) h
theorem Ts.idx{Q:Bool->Map->Prop}{a b:E}(h:Ev c (.idx a b) σ (uT Q)):Ts c (.idx a b) σ Q:=.of (λm=>fK.inv m.b λ_ _ _ _=>rfl) h
theorem Ts.call{Q:Bool->Map->Prop}{f:String}(h:Ev c (.call f es) σ (uT Q)):Ts c (.call f es) σ Q:=.of (λm=>dS.inv m.b λ_ _ _ _ _=>rfl) h
theorem gX.nil{Q:Bool->Map->Prop}(q:Q (!stop op) σ):gX c op .nil σ Q:=λA env sc φ s l t m S=>m.nil▸@BoolOp.casesOn (λop=>Q (!stop op) σ->wpAny c.B.M A (allTrue op [] env) (gu c.B φ s.heap Q) (Px c.B φ (atAny env) c.X) s) op (λq=>wpAny_allTrue_And_nil ⟨σ,q,S,.refl _⟩) (λq=>wpAny_allTrue_Or_nil ⟨σ,q,S,.refl _⟩) q
theorem gu.after{B:Bs}{h₀ h₁:Rn}{Q:Bool->Map->Prop}{b:Bool}(k:ax h₀ h₁)(x:gu B φ h₁ Q b s):gu B φ h₀ Q b s:=SY (λ_ y=>⟨y.1,y.2.1,k.trans y.2.2⟩) x
theorem gX.cons{Q:Bool->Map->Prop}(h:Ts c e σ (KB (λσ=>gX c op es σ Q) op Q)):gX c op (.cons e es) σ Q:=λA env sc φ s l t m S=>m.cons λv vs m ms=>
 have next:=
  λb s1 P=>P.elim λσ1 k S1 tk=>⟨λe=>aG (k.2 e A env sc φ s1 vs t ms S1) (λ_ _ z=>z.after tk),λe=>⟨σ1,k.1 e,S1,tk⟩⟩
 @BoolOp.casesOn (λop=>wpAny c.B.M A (isTrue v env (eval v env)) (λb s1=>(b=!stop op->wpAny c.B.M A (allTrue op vs env) (gu c.B φ s.heap Q) (Px c.B φ (atAny env) c.X) s1)/\(b=stop op->gu c.B φ s.heap Q b s1)) (Px c.B φ (atAny env) c.X) s->wpAny c.B.M A (allTrue op (v::vs) env) (gu c.B φ s.heap Q) (Px c.B φ (atAny env) c.X) s) op
  (λh=>wpAny_allTrue_And_cons (aG h (λb _ z=>b.casesOn (λz=>z.2 rfl) (λz=>z.1 rfl) z))) (λh=>wpAny_allTrue_Or_cons (aG h (λb _ z=>b.casesOn (λz=>z.1 rfl) (λz=>z.2 rfl) z)))
  (aG (h A env sc φ s v t m S) next)
theorem Ts.bor{Q:Bool->Map->Prop}(h:gX c .Or es σ Q):Ts c (.bor es) σ Q:=λA env sc φ s z t m S=>ip.inv m.b λo l p m=>have m:=ae m;eq_of_beq m.1▸X0 (h A env sc φ s l t m.2 S)
theorem Ts.band{Q:Bool->Map->Prop}(h:gX c .And es σ Q):Ts c (.band es) σ Q:=λA env sc φ s z t m S=>ip.inv m.b λo l p m=>have m:=ae m;eq_of_beq m.1▸X0 (h A env sc φ s l t m.2 S)
theorem Ts.nt{Q:Bool->Map->Prop}(h:Ts c e σ λb σ=>Q (!b) σ):Ts c (.nt e) σ Q:=λA env sc φ s z t m S=>kg.inv m.b λo x p m=>have m:=ae m;eq_of_beq m.1▸wpAny_isTrue_Not (h A env sc φ s x t m.2 S)
theorem Ev.fZ{Q:V->Map->Prop}{t a b:E}(h:Ts c t σ (oV (λσ=>Ev c a σ Q) (λσ=>Ev c b σ Q))):Ev c (.fZ t a b) σ Q:=λA env sc φ s z at' m S=>qz.inv m.b λx y w p m=>have m:=dG m;
 wpAny_IfExp (aG (h A env sc φ s x at' m.1 S) (λb s1 P=>P.elim λσ1 k S1 tk=>b.casesOn
  (λk=>aG (k.2 rfl A env sc φ s1 w at' m.2.2 S1) (λ_ _ z=>z.after tk)) (λk=>aG (k.1 rfl A env sc φ s1 y at' m.2.1 S1) (λ_ _ z=>z.after tk)) k))
theorem g5.one{Q:V->Map->Prop}(h:Ev c e σ Q):g5 c op (.cons e .nil) σ Q:=λA env sc φ s l p t m S=>m.cons λv vs m ms=>ms.nil▸h A env sc φ s v t m S
theorem g5.cons{Q:V->Map->Prop}{e':E}(h:Ev c e σ (KV c op (.cons e' es) Q)):g5 c op (.cons e (.cons e' es)) σ Q:=λA env sc φ s l p t m S=>m.cons λv vs m ms=>ms.cons λv' vs' m1 m2=>
 QM (aG (h A env sc φ s v t m S) (λu s1 P=>P.elim λx σ1 k r S1 tk=>QM (Sf (QM (RA (k.elim λb k=>zk k.1 r λtk'=>
  have l:=λe:b=stop op=>(show aA c.B φ s.heap Q u {s1 with toks:=tk'} from aA.after tk (aA.now S1 r (k.2.1 e)));have n:=λe:b=!stop op=>(RF (k.2.2 e A env sc φ {s1 with toks:=tk'} (v'::vs') p t (.mk m1 m2) S1.same) (λ_ _ z=>aA.after tk z) λ_ _ z=>z:wpAny c.B.M A (boolOp p op (evalEach (v'::vs') env)) (aA c.B φ s.heap Q) (Px c.B φ (atAny env) c.X) {s1 with toks:=tk'})
  by cases op<;>cases b<;>first|exact QV (l rfl)|exact n rfl))))))
theorem Ev.bor{Q:V->Map->Prop}(h:g5 c .Or es σ Q):Ev c (.bor es) σ Q:=λA env sc φ s z t m S=>ip.inv m.b λo l p m=>have m:=ae m;eq_of_beq m.1▸ZA ..▸h A env sc φ s l p t m.2 S
theorem Ev.band{Q:V->Map->Prop}(h:g5 c .And es σ Q):Ev c (.band es) σ Q:=λA env sc φ s z t m S=>ip.inv m.b λo l p m=>have m:=ae m;eq_of_beq m.1▸ZA ..▸h A env sc φ s l p t m.2 S
end
section
variable{prog:RU}{w:Sz}{A:Rg}{E:QS->QT->Prop}{s:QT}
theorem PQ(k n:Nat)(hk:k<=n):aah none (some k) 1 n=((0:Int),(k:Int)):=by
 refine (?_:((0:Int),if(k:Int)<0 then _ else min (k:Int) n)=_);exact aa (QP (Tf.mpr (R7 k))) (aa (Int.min_eq_left (RZ.mpr hk)) rfl)
theorem IG(k:Nat):Wr (0:Int) k 1=k:=by
 unfold Builtin.Slice.slicePlaces
 (refine aa (QR (by decide)) ?_;rewrite [Int.ediv_one])
 split<;>lia
theorem GL{sl:Q5}{k n:Nat}{u:Tok}{Q:Int×Int×Nat->QT->Prop}(hs:s.heap.IsSliceOf sl .none (.int k u) .none)(hk:k<=n)(h:Q (0,1,k) s):
  wpAny (model prog w) A (ZW (.ref sl) (pure n)) Q E s:=by
 refine Q7 hs λos y=>?_;refine QM (QM (Tl y.1 y.2.2 (x:=.none) rfl (QM (Tl y.1 y.2.2 (x:=.int k u) rfl (QM (Tl y.1 y.2.2 (x:=.none) rfl (QV (QM (ZX ?_)))))))));refine aa (QP (by decide)) ?_;refine QM (ZX (QM (slicePart_int (QM (QV ?_)))));refine aa (PQ k n hk) ?_;exact QV ((IG k).symm▸h:Q (0,1,Wr (0:Int) k 1) s)
theorem Aw{α:Type}:∀(l:List α) k,k<=l.length->((RP k).filterMap λj=>l[j]?)=l.take k
 |_,0,_=>rfl
 |[],k+1,h=>absurd h (VK k)
 |y::l,k+1,h=>by
  refine aa List.range_succ_eq_map (aa X1 (aa List.filterMap_map ?_));exact QQ (XU y) (Aw l k (Rv h))
theorem IH(xs:Array QS) k(hk:k<=xs.size):((RP k).filterMap λ(j:Nat)=>xs[((0:Int)+j*1).toNat]?).toArray=(xs.toList.take k).toArray:=QQ _ ((QQ (λf=>(RP k).filterMap f) (funext λj=>by(rewrite [Int.mul_one,UE,TY];refine aa (TO) ?_;rfl))).trans (Aw xs.toList k (RG▸hk)))
theorem LZ{t sl:Q5}{items:Array QS}{k:Nat}{u:Tok}{Q:QS->QT->Prop}(ht:s.heap.IsTuple t items)(hs:s.heap.IsSliceOf sl .none (.int k u) .none)(hk:k<=items.size)
  (h0:k=items.size->Q (.ref t) s) (h:Q (.ref s.heap.objs.size) {s with heap:=s.heap.push {cls:=.type "tuple",data:=.seq (items.toList.take k).toArray}})
  (hsz:items.size<=TG):wpAny (model prog w) A (T4 (.ref t) (.ref sl)) Q E s:=by
 have hdrop:sizeOk (.seq (items.toList.take k).toArray):=QN (R4 List.size_toArray) (QN (VT _ _) (QN hk hsz));have hTs:s.TypeIs (.ref sl) "slice":=Q7 hs λos y=>⟨os,y.1,y.2.1⟩;unfold PySem.getItem
 try with_reducible refine RA ?_
 first|refine QM (QV ?_)|skip
 refine QM (Vd ht.typeIs (by decide) (QM (SR ht.typeIs V5 (Se V5 ht.typeIs entry_tuple_getitem ?_ (args_tuple_getitem _ _)))));refine (?_:wpAny _ _ (V4 (.ref t)>>=_) _ _ s);refine QM (tupleItemsOf_ ht (QM (Xd hTs ?_)));refine aa (QR (by decide)) ?_;refine QM (GL hs hk ?_);refine (?_:wpAny _ _ (if((0:Int)==0&&(1:Int)==1&&k==items.size)=true then _ else _) _ _ s);by_cases e:k=items.size
 ·refine aa (QR (show((0:Int)==0&&(1:Int)==1&&k==items.size)=true from(Q6.mpr e:))) ?_
  refine QM ?_;refine QM (Xd ht.typeIs (QV ?_));refine aa (QR (by decide)) ?_;exact QM (Uz (QV ⟨_,rfl,QV (h0 e)⟩))
 ·refine aa (QP (λq:((0:Int)==0&&(1:Int)==1&&k==items.size)=true=>e (Q6.mp (q:)))) (aa (IH items k hk) ?_)
  first
   |exact QM (Sg (QV ⟨_,rfl,QV h⟩) hdrop)
   |exact QM (Sg (QM (QV (QV ⟨_,rfl,QV h⟩))) hdrop)
   |exact QM (QM (Sg (QV (QV ⟨_,rfl,QV h⟩)) hdrop))
   |exact QM (QM (Sg (QV ⟨_,rfl,QV h⟩) hdrop))
end
theorem vU:∀{xs:List QI},hK xs=true↔∀d∈xs,hO d=true
 |[]=>⟨λ_ _ m=>(nomatch m),λ_=>rfl⟩
 |x::xs=>Q8.trans ((and_congr_right' vU).trans (SG (p:=λd=>hO d=true)).symm)
theorem x8{n:Nat}:∀{xs:List QI},UX xs<=n↔∀d∈xs,d.depth<=n
 |[]=>⟨λ_ _ m=>(nomatch m),λ_=>Rr _⟩
 |x::xs=>T5.trans ((and_congr_right' x8).trans (SG (p:=λd:QI=>d.depth<=n)).symm)
theorem sO{xs:List QI}:aP (.tuple xs)=true↔xs.length<=1000/\∀d∈xs,hO d=true/\d.depth<=29:=
 ⟨λh=>have e:=hW h;⟨(eK h).1,λd m=>⟨vU.mp (eK h).2 d m,x8.mp (Rv (by rw [Ug] at e;lia:UX xs+1<=29+1)) d m⟩⟩,
  λh=>Q8.mpr ⟨Q8.mpr ⟨Rc h.1,vU.mpr λd m=>(h.2 d m).1⟩,Rc (by have e:=x8.mpr λd m=>(h.2 d m).2;rewrite [Ug];lia)⟩⟩
theorem AF{xs ys:List QI}(h:aP (.tuple xs)=true)(l:ys.length<=xs.length)(m:∀d∈ys,d∈xs):aP (.tuple ys)=true:=have h:=sO.mp h;sO.mpr ⟨QN l h.1,λd k=>h.2 d (m d k)⟩
theorem vN{h:Rn}{us:List QS}{xs:List QI}{as:List Q5}(r:Sn h us xs as):as=[]->ai (λd u=>UN h u d []) xs us:=
 VX (motive_1:=λ_ _ _ _=>True) trivial (λ_=>trivial) (λ_ _=>trivial) (λ_ _=>trivial) (λ_ _ _ _ _=>trivial) (λ_ _ _ _ _=>trivial) (λ_ _ _ _ _ _ _=>trivial)
  (λ_=>.nil) (λr1 _ _ ih e=>.cons ((eY e).1▸r1) (ih (eY e).2)) r
theorem z5{h:Rn}{us:List QS}{xs:List QI}(x:ai (λd u=>UN h u d []) xs us):Sn h us xs []:=x.rec .nil λr _ ih=>.cons r ih
inductive dJ B(Q:V->Map->Prop) σ:Bool->V->V->Prop
 |zf {xs:List QI} {j:Int}:1<=j->j.toNat<=xs.length->Q (.d (.tuple (xs.drop j.toNat))) σ->dJ B Q σ true (.d (.tuple xs)) (.d (.int j))
 |zg {xs:List QI} {j:Int}:0<=j->j.toNat<=xs.length->Q (.d (.tuple (xs.take j.toNat))) σ->dJ B Q σ false (.d (.tuple xs)) (.d (.int j))
 |Bj {a:Q5} {l:List V} {j:Int}:Rd B σ a (.lst l)->0<=j->l.length<ah->(∀r,σ r=none->Q (.r r) (σ.put r (.lst (l.drop j.toNat))))->dJ B Q σ true (.r a) (.d (.int j))
 |Bk {a:Q5} {l:List V} {j:Int}:Rd B σ a (.lst l)->0<=j->l.length<ah->(∀r,σ r=none->Q (.r r) (σ.put r (.lst (l.take j.toNat))))->dJ B Q σ false (.r a) (.d (.int j))
section
variable{B:Bs}{σ φ:Map}{s:QT}{A:Rg}{E:QS->QT->Prop}{Q:V->Map->Prop}{v k:V}{u w:QS}{a:Q5}
theorem jc{h:Rn}{o:Obj}:ax h (h.push o):=.of λ_ _ e=>QY _ e
theorem sY{j:Int}(h:0<=j):∃m:Nat,j=m/\j.toNat=m:=⟨j.toNat,(VU h).symm,rfl⟩
theorem vm{h:Rn}{us:Array QS}{xs:List QI}(r:Sn h us.toList xs [])(ok:aP (.tuple xs)=true):us.size<=TG:=QN (RG▸fV r▸(eK ok).1) qm
theorem Bi{h:Rn}{us:Array QS}{l:List V}(r:ai (ak h) l us.toList)(n:l.length<ah):us.size<=TG:=ij n (jv r)
def yS(h:Rn)(lo:Bool)(sl:Q5)(k:QS):Prop:=lo.casesOn (h.IsSliceOf sl .none k .none) (h.IsSliceOf sl k .none .none)
theorem GN{lo:Bool}{sl:Q5}(hs:yS s.heap lo sl w)(S:ag B σ φ s)(K:dJ B Q σ lo v k)(ra:ak s.heap v u)(rb:ak s.heap k w):wpAny B.M A (T4 u (.ref sl)) (aA B φ s.heap Q) E s:=
 @dJ.casesOn B Q σ (λlo v k _=>ak s.heap v u->ak s.heap k w->yS s.heap lo sl w->wpAny B.M A (T4 u (.ref sl)) (aA B φ s.heap Q) E s) lo v k K
  (λ{xs j} h1 h2 q ra rb hs=>(sY (Ti (by decide) h1)).elim λm e=>by
   rw [e.2] at h2 q;obtain rfl:=e.1
   exact rb.rd.elim λt e=>ao ra.rd λa us y=>y.1▸getItem_tuple_from y.2.1 (e▸hs:s.heap.IsSliceOf sl _ .none .none) (RZ.mp h1) (RG▸fV y.2.2▸h2)
    (qb S (z5 ((vN y.2.2 rfl).drop m)) (AF ra.1 (List.length_drop▸Nat.sub_le ..) λ_=>List.mem_of_mem_drop) q) (vm y.2.2 ra.1))
  (λ{xs j} h1 h2 q ra rb hs=>(sY h1).elim λm e=>by
   rw [e.2] at h2 q;obtain rfl:=e.1
   exact rb.rd.elim λt e=>ao ra.rd λa us y=>y.1▸have n:=RG.symm.trans (fV y.2.2)
    LZ y.2.1 (e▸hs:s.heap.IsSliceOf sl .none _ .none) (n▸h2) (λg=>aA.now S (y.1▸ra) ((List.take_of_length_le (R4 (g.trans n).symm):xs.take m=xs)▸q))
    (qb S (z5 ((vN y.2.2 rfl).take m)) (AF ra.1 (List.length_take_le' ..) λ_=>Xy) q) (vm y.2.2 ra.1))
  (λ{a l j} x h1 n q ra rb hs=>(sY h1).elim λm e=>by
   rw [e.2] at q;obtain rfl:=e.1;exact rb.rd.elim λt e=>ra▸(S.read x).lst.elim λus y=>WJ y.1 (e▸hs:s.heap.IsSliceOf sl _ .none .none) (.int _ _) .none .none (by decide) (slicePick_from' us m▸qc S (y.2.drop m) q) (Bi y.2 n))
  (λ{a l j} x h1 n q ra rb hs=>(sY h1).elim λm e=>by
   rw [e.2] at q;obtain rfl:=e.1;exact rb.rd.elim λt e=>ra▸(S.read x).lst.elim λus y=>WJ y.1 (e▸hs:s.heap.IsSliceOf sl .none _ .none) .none (.int _ _) .none (by decide) (slicePick_upto' us m▸qc S (y.2.take m) q) (Bi y.2 n))
  ra rb hs
theorem dJ.type{lo:Bool}(S:ag B σ φ s)(K:dJ B Q σ lo v k)(ra:ak s.heap v u):s.TypeIs u "tuple"\/s.TypeIs u "list"\/s.TypeIs u "dict":=
 have l:∀{a:Q5}{l:List V},Rd B σ a (.lst l)->u=.ref a->s.TypeIs u "tuple"\/s.TypeIs u "list"\/s.TypeIs u "dict":=λx e=>e▸(S.read x).elim λo y=>.inr (.inl ⟨o,y.1,y.2.2.1⟩)
 @dJ.casesOn B Q σ (λlo v _ _=>ak s.heap v u->s.TypeIs u "tuple"\/s.TypeIs u "list"\/s.TypeIs u "dict") lo v k K (λ_ _ _ ra=>ao ra.rd λ_ _ y=>.inl (y.1▸y.2.1.typeIs)) (λ_ _ _ ra=>ao ra.rd λ_ _ y=>.inl (y.1▸y.2.1.typeIs)) (λx _ _ _ ra=>l x ra) (λx _ _ _ ra=>l x ra) ra
end
section
variable{c:Cx}{σ φ:Map}{s:QT}{Q:V->Map->Prop}{a b:E}
theorem mK{s:QT}{u:QS}{o:Obj}{T:String}(h:s.TypeIs u T):aaq {s with heap:=s.heap.push o} u T:=by
 cases u with
 |ref a=>exact SY (λ_ y=>⟨QY _ y.1,y.2⟩) h
 |_=>exact h
theorem zt{x y z:QS}:sizeOk (.fields #[x,y,z]):=(by refine aa VI ?_;decide:3<=TG+2)
theorem zH{A:Rg}{sp:QL}{u w:QS}{lo:Bool}{v k:V}{h₀:Rn}{s:QT}{fs:Array QS}{E:QS->QT->Prop}(S:ag c.B σ φ s)(K:dJ c.B Q σ lo v k)(ra:ak s.heap v u)(rb:ak s.heap k w)(tk:ax h₀ s.heap)
  (hs:yS (s.heap.push {cls:=.type "slice",data:=.fields fs}) lo s.heap.objs.size w):wpAny c.B.M A (operate [.ref s.heap.objs.size,u] (T4 u (.ref s.heap.objs.size))>>=λr=>ZS sp u r>>=λ_=>pure r) (aA c.B φ h₀ Q) E {s with heap:=s.heap.push {cls:=.type "slice",data:=.fields fs}}:=
 Bv (tk.trans jc) (GN hs (S.more λ_ _ e=>QY _ e) K (ra.mono jc) (rb.mono jc))
theorem Ev.lr(h:Ev c a σ (K2 c b λv k σ=>dJ c.B Q σ true v k)):Ev c (.lr a b) σ Q:=λA env sc φ s z t m S=>fK.inv m.b λo sp p m=>kh.inv m λx y w q m=>cg.inv m λk m=>have m:=cV m;(cS.inv m.1).symm▸(cS.inv m.2.1).symm▸V7 ..▸by
 refine QM (aG (h A env sc φ s o t m.2.2.1 S) (λu s1 P=>QM (RA ?_)))
 show wpAny c.B.M A (do
  let l←eval k env
  let u←YB [l] (Xz none)
  let s←YB [l,u] (Xz none)
  newFields "slice" [l,u,s]) _ _ s1
 refine P.elim λv σ1 h1 r1 S1 tk=>QM (aG (h1 A env sc φ s1 k t m.2.2.2 S1) (λw s2 P=>P.elim λv' σ2 K r2 S2 tk2=>QM (RA (QV (QM (RA (QV (Sg ?_ zt))))))));refine QM (Sf (QM (xB ((K.type S2 (r1.mono tk2)).imp mK (.imp mK mK)) ?_)));exact zH S2 K (r1.mono tk2) r2 (tk.trans tk2) (Yn s2.heap w .none .none)
theorem Ev.ly(h:Ev c a σ (K2 c b λv k σ=>dJ c.B Q σ false v k)):Ev c (.ly a b) σ Q:=λA env sc φ s z t m S=>fK.inv m.b λo sp p m=>kh.inv m λx y w q m=>cg.inv m λk m=>have m:=cV m;(cS.inv m.1).symm▸(cS.inv m.2.1).symm▸V7 ..▸by
 refine QM (aG (h A env sc φ s o t m.2.2.1 S) (λu s1 P=>QM (RA ?_)))
 show wpAny c.B.M A (do
  let l←Xz none
  let u←YB [l] (eval k env)
  let s←YB [l,u] (Xz none)
  newFields "slice" [l,u,s]) _ _ s1
 refine P.elim λv σ1 h1 r1 S1 tk=>QM (QV (QM (RA (aG (h1 A env sc φ s1 k t m.2.2.2 S1) (λw s2 P=>P.elim λv' σ2 K r2 S2 tk2=>QM (RA (QV (Sg ?_ zt))))))));refine QM (Sf (QM (xB ((K.type S2 (r1.mono tk2)).imp mK (.imp mK mK)) ?_)));exact zH S2 K (r1.mono tk2) r2 (tk.trans tk2) (Yn s2.heap .none w .none)
end
def Calls(B:Bs)(n:Nat)(f:String)(vs:List V)(σ:Map)(Q:V->Map->Prop)(X:QI->QI->Map->Prop):Prop:=∀(A:Rg) φ s l u us,B.bD f=some u->A.frames=some l->eG φ l->A.depth+4*n+6<TF->A.units+60*n+350<cLine->A.handled=none->
 ag B σ φ s->ai (ak s.heap) vs us->wpAny B.M A (T3 u us) (aA B φ s.heap Q) (Px B φ q9 X) s
theorem Calls.le{B:Bs}{n m:Nat}{f:String}{vs:List V}{σ:Map}{Q:V->Map->Prop}{X:QI->QI->Map->Prop}(e:n<=m)(h:Calls B n f vs σ Q X):Calls B m f vs σ Q X:=λA φ s l u us hu hf hl hd hn=>h A φ s l u us hu hf hl (by lia) (by lia)
section
variable{M:Ub}{A:Rg}{E:QS->QT->Prop}{s:QT}{env:Env}
theorem rL(l:List QL):(l.map λe=>(false,eval e env)).any (·.1)=false:=l.rec rfl λ_ _ ih=>ih
theorem qP{f:QS}{l:List QL}{Q:Args->QT->Prop}(h:wpAny M A (XS (l.map λe=>(false,eval e env))) (λvs s'=>Q ⟨vs,[]⟩ s') E s):wpAny M A (evalArgs f true (l.map λe=>(false,eval e env)) []) Q E s:=by
 cases l with
 |nil=>
  exact QM (aG h (λvs s' h'=>QM (QV (RA (QM (QV (QM (QV (QV h')))))))))
 |cons a l=>exact evalArgs_plain h
theorem Px.ph{B:Bs}{φ:Map}{p p':Option QS->Prop}{X:QI->QI->Map->Prop}{e:QS}(w:∀o,p o->p' o)(x:Px B φ p X e s):Px B φ p' X e s:=cm x λc a σ η y x=>⟨c,a,σ,η,y,x.1,x.2.1,⟨x.2.2.1.it.imp λ_ z=>z.imp λ_ z=>z.imp λ_ z=>z.imp λ_ z=>z.imp λ_ z=>⟨z.1,z.2.1,z.2.2.1,z.2.2.2.1,z.2.2.2.2.1,z.2.2.2.2.2.1.imp (λq=>⟨q.1,w _ q.2⟩) λq=>q.imp λ_ q=>q.imp λ_ q=>q.imp λ_ q=>q.imp λ_ q=>⟨q.1,q.2.1,q.2.2.1,q.2.2.2.1,q.2.2.2.2.1,w _ q.2.2.2.2.2⟩,z.2.2.2.2.2.2⟩⟩,x.2.2.2⟩
theorem KC{env:Env}:∀o,q9 o->atAny env o:=λ_ h=>.inr (.inl h)
theorem oB{B:Bs}{pos:Pos}{u:QS}{first:List QS}{l:List QL}{Q:QS->QT->Prop}(hc:iU B.h u)
  (h:wpAny M A (XS (l.map λe=>(false,eval e env))) (λvs s₁=>(∃τ,Rel B τ s₁)/\wpAny M A (call u (first++vs)) Q E s₁) E s):wpAny M A (ZY pos u first (l.map λe=>(false,eval e env)) []) Q E s:=
 @iU.casesOn B.h (λu _=>wpAny M A (XS (l.map λe=>(false,eval e env))) (λvs s₁=>(∃τ,Rel B τ s₁)/\wpAny M A (call u (first++vs)) Q E s₁) E s->wpAny M A (ZY pos u first (l.map λe=>(false,eval e env)) []) Q E s) u hc
  (λ{a o fd} ho hd h=>callWith_function (qP (aG h (λvs s₁ y=>y.1.elim λτ R=>⟨⟨R.base _ _ ho,hd⟩,y.2⟩))))
  (λ{C nm q N bs bm hdct sn sub ab col dd k0 k1 k2 k3 k5 newId} hC h=>by
   refine QM (RA (aG (qP (Q:=λa s₁=>(∃τ,Rel B τ s₁)/\wpAny M A (call (.ref C) (first++a.pos) a.kw) Q E s₁) h) (λx s₁ h₁=>QM (Sf ?_))));refine h₁.1.elim λτ R=>?_;rewrite [rL];exact QM (Yo (R.base _ _ hC) (QM (aG h₁.2 (λr s₂ hr=>QM (RA (Xx (QV hr))))))))
  (λid h=>callWith_builtin (rL l) (qP (aG h (λvs s₁ y=>y.2))))
  (λT h=>PySem.callWith_type (rL l) (qP (aG h (λvs s₁ y=>y.2)))) h
end
section
variable{c:Cx}{σ φ:Map}{s:QT}{Q:V->Map->Prop}{es:Es}{f:String}
theorem Calls.at{A:Rg}{env:Env}{sc:RE}{u:QS}{vs:List V}{us:List QS}(h:Calls c.B c.n f vs σ Q c.X)(hu:c.B.bD f=some u)(t:At c A env sc φ)(hh:A.handled=none)(S:ag c.B σ φ s)(r:ai (ak s.heap) vs us):wpAny c.B.M A (T3 u us) (aA c.B φ s.heap Q) (Px c.B φ (atAny env) c.X) s:=ao t.fe λg l y=>RF (h A φ s (g::l) u us hu y.1 y.2.2 (QO (Rj (by decide) _) t.dep) (QO (Rj (by decide) _) t.fy) hh S r) (λ_ _ z=>z) λ_ _ z=>z.ph KC
theorem tX{A:Rg}{env:Env}{sc:RE}(t:At c A env sc φ)(hh:c.h=false):A.handled=none:=t.hd.elim id λe=>ff (hh▸e)
theorem Ev.call(hh:c.h=false)(h:cM c es σ λvs σ=>Calls c.B c.n f vs σ Q c.X):Ev c (.call f es) σ Q:=λA env sc φ s z t m S=>dS.inv m.b λfn l kw p m=>have m:=cV m;have g:jE sc f fn:=dg.inv m.2.2.1;have ml:cK sc es l:=(ae m.2.2.2).2;isNil.inv m.1▸(c.B.has f m.2.1).elim λu hu=>by
 obtain ⟨q,rfl⟩:=g.1.1;refine Ux (ig S t g (c.B.look f u m.2.1 hu) ?_);rewrite [fS ml];exact oB (c.B.yi f u hu) (aG (h A env sc φ s l t ml S) (λus s1 P=>P.elim λvs σ1 k r S1 tk=>⟨⟨_,S1.rel⟩,aG (k.at hu t (tX t hh) S1 r) (λ_ _ z=>z.after tk)⟩))
end
theorem all_nil{α β:Type}{R:α->β->Prop}{bs:List β}(x:ai R [] bs):bs=[]:=VL x.length.symm
theorem all_cons{α β:Type}{R:α->β->Prop}{a:α}{as:List α}{bs:List β}(x:ai R (a::as) bs):∃b bs',bs=b::bs'/\R a b/\ai R as bs':=(x.get 0 a rfl).elim λb y=>bs.casesOn (λ_ e=>nomatch e) (λc cs x e=>⟨c,cs,rfl,QK e▸y.2,x.drop 1⟩) x y.1
theorem all1{α β:Type}{R:α->β->Prop}{a:α}{bs:List β}(x:ai R [a] bs):∃b,bs=[b]/\R a b:=ao (all_cons x) λb bs' y=>⟨b,all_nil y.2.2▸y.1,y.2.1⟩
theorem all2{α β:Type}{R:α->β->Prop}{a a':α}{bs:List β}(x:ai R [a,a'] bs):∃b b',bs=[b,b']/\R a b/\R a' b':=ao (all_cons x) λb bs' y=>(all1 y.2.2).elim λb' z=>⟨b,b',z.1▸y.1,y.2.1,z.2⟩
def Et(B:Bs)(σ:Map)(v:V)(k:Nat):Prop:=(∃xs,v=.d (.tuple xs)/\k=xs.length)\/(∃x,v=.d (.str x)/\x.length<ah/\k=x.length)\/∃a l,v=.r a/\Rd B σ a (.lst l)/\l.length<ah/\k=l.length
section
variable{B:Bs}{n:Nat}{σ:Map}{Q:V->Map->Prop}{X:QI->QI->Map->Prop}
theorem CO{n m:Nat}(h:n<ah)(e:n=m):(m:Int)<2^63:=Uh (R5.mpr (e▸h)) uR
theorem Calls.fixed{f:String}{w:QS}{vs:List V}(hw:B.bD f=some w)(h:∀(A:Rg) φ s us,ag B σ φ s->ai (ak s.heap) vs us->wpAny B.M A (T3 w us) (aA B φ s.heap Q) (Px B φ q9 X) s):Calls B n f vs σ Q X:=λA φ s l u us hu _ _ _ _ _ S r=>QK (hw.symm.trans hu)▸h A φ s us S r
theorem Calls.len{v:V}{k:Nat}(y:Et B σ v k)(q:Q (.d (.int k)) σ):Calls B n "len" [v] σ Q X:=.fixed B.len λA φ s us S r=>(all1 r).elim λu r=>r.1▸
 y.elim (λy=>y.elim λxs y=>ao (y.1▸r.2:ak s.heap (.d (.tuple xs)) u).rd λa us z=>z.1▸have e:=RG.symm.trans (fV z.2.2)
   len_tuple z.2.1 (e▸SE (RZ.mpr (eK (y.1▸r.2:ak s.heap (.d (.tuple xs)) u).1).1) (by decide)) (e▸aA.now S (iy _ _) (y.2▸q)))
  λy=>y.elim (λy=>y.elim λx y=>(y.1▸r.2:ak s.heap (.d (.str x)) u).rd.elim λt e=>e▸P.len_str (Wd.mpr (CO y.2.1 rfl)) (aA.now S (iy _ _) (y.2.2▸q)))
   λy=>ao y λa l y=>r.2.ref y.1▸(S.read y.2.1).lst.elim λus z=>have e:=jv z.2;len_list z.1 (CO y.2.2.1 e) (e▸aA.now S (iy _ _) (y.2.2.2▸q))
theorem Calls.chr(q:Q (.d (.str (QJ "`"))) σ):Calls B n "chr" [.d (.int 96)] σ Q X:=.fixed B.chr λA φ s us S r=>(all1 r).elim λu r=>r.1▸r.2.rd.elim λt e=>e▸P.chr_of_int (by decide) (aA.now S (mX (by decide+kernel) _) q)
theorem Calls.str{i:Int}(h:0<=i/\i<1000)(ok:aP (.str (QJ (toString i)))=true)(q:Q (.d (.str (QJ (toString i)))) σ):Calls B n "str" [.d (.int i)] σ Q X:=.fixed B.str λA φ s us S r=>(all1 r).elim λu r=>r.1▸r.2.rd.elim λt e=>e▸
 str_of_int_fit (N:=1000) (by omega) (by decide) λ_=>aA.now S (mX ok _) q
theorem Calls.tuple{a:Q5}{ds:List QI}(x:Rd B σ a (.lst (ds.map V.d)))(ok:aP (.tuple ds)=true)(q:Q (.d (.tuple ds)) σ):Calls B n "tuple" [.r a] σ Q X:=.fixed B.tup λA φ s us S r=>(all1 r).elim λu r=>r.1▸r.2▸(S.read x).lst.elim λus z=>
 have rs:=pK z.2
 call_tuple_list z.1 (λh' hk=>aA.after (.of hk) (qb (S.more hk) (sg (.of hk) rs rfl (eK ok).2) ok q)) (vm rs ok)
end
theorem AM{α β:Type}{f:α->β}{l:List α}{x:α}(n:(l.map f).Nodup)(h:f x∉l.map f):((l++[x]).map f).Nodup:=by
 refine aa Rq ?_;exact S7.mpr ⟨n,RV _ _,λa ha b hb e=>h ((QW.mp hb)▸e▸ha)⟩
section
variable{prog:RU}{w:Sz}{K:Type}[DecidableEq K]{A:Rg}{E:QS->QT->Prop}{s:QT}
theorem GV{knd:KeyKind prog w K}{d:Q5}{kvs:List (K×QS)}{k:K}{key v:QS}{Q:QS->QT->Prop}(hkey:knd.is k key=true)(hm:s.heap.DictAt knd d kvs kvs.length)
  (h0:∀u,XT kvs k=some u->Q u {s with toks:=s.toks+1})
  (hQ:XT kvs k=none->∀h',h'.DictAt knd d (kvs++[(k,v)]) (kvs++[(k,v)]).length->Sr d s.heap h'->Q v {s with heap:=h',toks:=s.toks+1})
  (hsz:kvs.length<=TG):wpAny (model prog w) A (Wf d key v) Q E s:=by
 refine ao hm λo es ⟨ho,hc,hd,hk,hp,hn⟩=>?_;have hes:=(RG.symm.trans hp.length).symm▸hsz;have hval:findBy knd.is es k=XT kvs k:=by refine a9 (hp.find k) ?_;obtain ⟨l⟩:=es;simp [findBy]
 unfold dictSetDefault
 try with_reducible refine RA ?_
 refine QM (knd.pyHash hkey (QM (YK hkey ho hd hk ?_)));have hidx:=(xR es _).trans (hp.findIdx k);rw [findBy_of_findIdx?] at hval;generalize hi:(es.findIdx? λe=>knd.is k e.key)=r at hval
 cases r with
 |some i=>
  refine QM (YN ho hd ?_);have he:=Wq (Array.findIdx?_eq_some_iff_findIdx_eq.mp hi).1
  replace hval:(es[i]?).map (·.val)=XT kvs k:=hval
  rw [he] at hval⊢;exact QM (Uz (QV (h0 _ hval.symm)))
 |none=>
  exact QM (Uz (QM (VJ ho hd (QV (hQ hval.symm _ ⟨_,_,RR _ ho (UM (Tj hd _)),
   hc.mapDictKeys _,Q2▸Tj hd _,hk.push hkey _,Uw▸hp.append hkey (knd.hash k) v,AM hn (WS (hidx.symm.trans hi))⟩ (RW ..))))))
theorem GU{knd:HeapKind prog w K}{d a:Q5}{xs:List (K×Q5×QS)}{k:K}{v:QS}{Q:QS->QT->Prop}(hu:knd.room A)(hkey:knd.is s.heap k a)(hm:s.heap.DictOfH knd d xs)
  (h0:∀p,atKey xs k=some p->Q p.2 {s with toks:=s.toks+knd.draws k})
  (hQ:atKey xs k=none->∀h',h'.DictOfH knd d (xs++[(k,a,v)])->Sr d s.heap h'->Q v {s with heap:=h',toks:=s.toks+knd.draws k})
  (hsz:xs.length<=TG):wpAny (model prog w) A (Wf d (.ref a) v) Q E s:=by
 refine az hm λo es ep ⟨ho,hc,hd,he,his,hn⟩=>?_;unfold dictSetDefault
 try with_reducible refine RA ?_
 refine QM (knd.pyHash hu hkey (QM (wpAny_dictFind_heap hu hkey ho hd he his hn (λhno=>?_) λj p hj=>?_)))
 ·exact QM (Uz (QM (VJ (hz:=(size_of_entries he).symm▸hsz) ho hd (QV (hQ (atKey_none_of_get hno) _ ⟨_,_,ep+1,RR _ ho (UM (Tj hd _)),
   hc.mapDictKeys _,Tj hd _,by refine aa Uw (aa he (aa Rq ?_));rfl,λx hx=>knd.keeps ((RL.mp hx).elim (his x) λq=>QW.mp q▸hkey) ho hd (RW ..),AM hn (not_mem_keys_of_get hno)⟩ (RW ..))))))
 ·refine QM (YN ho hd ?_)
  refine aa (entry_at he j) (aa hj ?_);exact QM (Uz (QV (h0 p (atKey_of_get hn hj))))
end
section
variable{B:Bs}{σ φ:Map}{s:QT}{A:Rg}{E:QS->QT->Prop}{a:Q5}{l:List (QI×V)}{k:QI}{u w:QS}{v:V}{Q:V->Map->Prop}
def iR(Q:V->Map->Prop)(a:Q5)(l:List (QI×V))(t:Nat)(k:QI)(v:V)(σ:Map):Prop:=(getD l k).casesOn (Q v (σ.put a (.aj t (l++[(k,v)])))) λw=>Q w σ
theorem Cq{h:Rn}{m:Option V}{r:Option QS}(g:Got h m r):(∀u,r=some u->∃v,m=some v/\ak h v u)/\(r=none->m=none):=by
 cases m with
 |none=>exact ⟨λu e=>(nomatch g.symm.trans e),λ_=>rfl⟩
 |some v=>exact Q7 g λw y=>⟨λu e=>⟨v,rfl,QK (y.1.symm.trans e)▸y.2⟩,λe=>(nomatch y.1.symm.trans e)⟩
theorem zE(sz:l.length<ah):(l++[(k,v)]).length<=ah:=Q2▸sz
theorem Nl{t:Nat}(rm:A.units+100<cLine)(S:ag B σ φ s)(e:σ a=some (.aj t l))(sz:l.length<ah)(rv:ak s.heap v w):∀{t':Nat}(y:gA s.heap k u t')(nt:t'≠2)(ht:t=0\/t=t')(q:iR Q a l t' k v σ),wpAny B.M A (Wf a u w) (aA B φ s.heap Q) E s
 |1,y,_,ht,q=>ao y λi tk z=>(S.l e).elim λo g=>ao g.2.2.2.2 λes ep x=>z.2▸(x.2.kind y ht).elim λee D=>D.elim λkvs D=>
   have n:=D.2.2.2.length;have G:=Cq (z.1▸xC cj D.2.2.2:Got s.heap (getD l k) (XT kvs i))
   GV (Yk _ _ i tk) ⟨o,es,g.1,g.2.2.1,(ee.trans n)▸x.1,D.1,D.2.1,D.2.2.1⟩ (λu' eu=>(G.1 u' eu).elim λv' y'=>aA.now S y'.2 (by unfold iR at q;rw [y'.1] at q;exact q))
    (λen h' hd hs=>ao hd λo' es' y'=>have tk:=S.tup e hs;have al:=ai.append (vb tk D.2.2.2) (.cons ⟨z.1,rv.mono tk⟩ .nil);⟨v,_,by unfold iR at q;rw [G.2 en] at q;exact q,rv.mono tk,S.put e hs λtk=>oy (t:=1) y'.1 y'.2.1 y'.2.2.1 (zE sz) ⟨al.length.symm,_,y'.2.2.2.1,y'.2.2.2.2.1,y'.2.2.2.2.2,al⟩,tk⟩) (ij sz n)
 |2,y,nt,ht,q=>absurd rfl nt
 |_+3,y,_,ht,q=>y.elim λb z=>(S.l e).elim λo g=>ao g.2.2.2.2 λes ep x=>z.1▸(x.2.kind y ht).elim λkvs D=>
   have G:=Cq (Cr D.2.2.2)
   GU (show A.units+40<cLine from room rm (by decide)) z.2 ⟨o,es,ep,g.1,g.2.2.1,x.1,D.1,D.2.1,D.2.2.1⟩ (λp ep=>(G.1 p.2 (QQ _ ep)).elim λv' y'=>aA.now S y'.2 (by unfold iR at q;rw [y'.1] at q;exact q))
    (λen h' hd hs=>az hd λo' es' ep' y'=>have tk:=S.tup e hs;⟨v,_,by unfold iR at q;rw [G.2 (QQ _ en)] at q;exact q,rv.mono tk,S.put e hs λtk=>oy (t:=_+3) y'.1 y'.2.1 y'.2.2.1 (zE sz) ⟨_,y'.2.2.2.1,y'.2.2.2.2.1,y'.2.2.2.2.2,ai.append (D.2.2.2.imp λ_ _ z=>⟨z.1,z.2.mono tk⟩) (.cons ⟨rfl,rv.mono tk⟩ .nil)⟩,tk⟩) (ij sz D.2.2.2.length)
end
section
variable{B:Bs}{σ φ:Map}{s:QT}{A:Rg}{E:QS->QT->Prop}{a:Q5}{k:QI}{u w:QS}{v:V}{Q:V->Map->Prop}
theorem PI{l:List V}(S:ag B σ φ s)(e:σ a=some (.lst l))(sz:l.length<ah)(r:ak s.heap v w)(q:Q (.d .none) (σ.put a (.lst (l++[v])))):wpAny B.M A (call (.builtin "list.append") [.ref a,w]) (aA B φ s.heap Q) E s:=
 (S.l e).elim λo g=>ao g.2.2.2.2 λus n z=>Se Zd ⟨o,g.1,g.2.2.1⟩ YO
  (show wpAny _ _ (updateSeq a (·.push w)>>=λ_=>Ze .none) _ _ s from QM (ZB (hz:=ij sz (jv z.2)) (_hz':=(ZC _)▸QU (ij sz (jv z.2))) g.1 z.1 (QV ⟨.none,rfl,(zN S e g.1 g.2.2.1 g.2.2.2.1 z.1 (λtk=>(Uw:(us.push w).toList=_)▸(jw tk z.2).append (.cons (r.mono tk) .nil)) q).elim λσ' y=>⟨_,σ',y.1,s8,y.2.1,y.2.2⟩⟩))) (Zf _ _)
def Qh(B:Bs)(Q:V->Map->Prop)(a:Q5)(vs:List V)(σ:Map):Prop:=∃k x t t' l,vs=[.d k,x]/\Rd B σ a (.aj t l)/\kd k=t'/\t'≠0/\(t=0\/t=t')/\Q ((getD l k).getD x) σ
theorem LW{x:V}{t t':Nat}{l:List (QI×V)}(rm:A.units+300<cLine)(S:ag B σ φ s)(h:Rd B σ a (.aj t l))(e:kd k=t')(n:t'≠0)(ht:t=0\/t=t')(rk:ak s.heap (.d k) u)(rx:ak s.heap x w)(q:Q ((getD l k).getD x) σ):wpAny B.M A (call (.builtin "dict.get") [.ref a,u,w]) (aA B φ s.heap Q) E s:=
 Se Xq (S.read h).dict PySem.F.entry_dict_get (show wpAny _ _ (dictGet a u>>=_) _ _ s from QM (x7 (show A.units+1+100<cLine by lia) (S.read h) (gA.of rk e n) ht λr tk g=>by
  generalize getD l k=m at g q
  cases m with
  |some v=>exact Q7 g λw' y=>y.1▸QV ⟨w',rfl,aA.now S y.2 q⟩
  |none=>
   refine g▸?_;exact QM (wpAny_missed_other (S.mods h) (QV ⟨w,rfl,aA.now S rx q⟩)))) (PySem.F.args_dict_get_3 _ _ _)
theorem GW{x:V}{t t':Nat}{l:List (QI×V)}(rm:A.units+300<cLine)(S:ag B σ φ s)(h:σ a=some (.aj t l))(sz:l.length<ah)(e:kd k=t')(n:t'≠0)(n2:t'≠2)(ht:t=0\/t=t')(rk:ak s.heap (.d k) u)(rx:ak s.heap x w)(q:iR Q a l t' k x σ):wpAny B.M A (call (.builtin "dict.setdefault") [.ref a,u,w]) (aA B φ s.heap Q) E s:=by
 have hT:=(S.l h).dict;refine Se VP hT PySem.F.entry_dict_setdefault ?_ (PySem.F.args_dict_setdefault_3 _ _ _);refine QM ?_;refine QM (Xp hT ?_);refine QV ?_;refine (?_:wpAny _ _ (if(a==To)=true then _ else(Wf a u w>>=_)) _ _ s);refine aa (QP (by rw [S.mods (.inl h)];exact SD)) ?_;exact QM (aG (Nl (show A.units+1+100<cLine by lia) S h sz rx (gA.of rk e n) n2 ht q) (λr _ z=>QV ⟨r,rfl,z⟩))
def Qf(B:Bs)(Q:V->Map->Prop)(a:Q5)(vs:List V)(σ:Map):Prop:=∃(x:QI)(ys:List QI)(i:Nat),vs=[.d x]/\Rd B σ a (.lst (ys.map V.d))/\ys.findIdx? (λz=>Rk z x)=some i/\i<ah/\Q (.d (.int i)) σ
theorem LC{ys:List QI}{i:Nat}(rm:A.units+300<cLine)(S:ag B σ φ s)(h:Rd B σ a (.lst (ys.map V.d)))(rx:ak s.heap (.d k) u)(hi:ys.findIdx? (λz=>Rk z k)=some i)(hl:i<ah)(q:Q (.d (.int i)) σ):wpAny B.M A (call (.builtin "list.index") [.ref a,u]) (aA B φ s.heap Q) E s:=
 (S.read h).lst.elim λus y=>az (w4 y.1) λdd sl n ho=>
  have rs:=pK y.2;have lay:=(oH (um (S.read h)).2).1;have F:=List.findIdx?_eq_some_iff_getElem.mp ((List.findIdx?_map (p:=λz=>Rk z k)).symm.trans (SeqAt.readsAll_map ys _ _ lay rs▸hi))
  F.elim λh1 h2=>Xb WV ⟨_,ho,rfl⟩ PySem.F.entry_list_index (PySem.F.args_list_index_2 _ _) (SeqAt.list_indexAt a us n dd sl u (λz=>Rk (SeqAt.readOf s.heap z) k) i (RG▸h1) (Uh (R5.mpr hl) (by decide)) h2.1 λm hm lt=>WC.mpr (h2.2 m lt))
   ⟨ho,SeqAt.items_eqAt rs rx.2 lay (iK _ (eM rx.1)) (pI rm (hW rx.1)),aA.now S (iy i _) q⟩
end
theorem Je name:∃y,S6 (.type "object") name=pure y:=by
 (rewrite [Tc];refine aa R9 ?_)
 generalize h:ZZ "object"=r
 cases r with
 |none=>exact nomatch h.symm.trans (show ZZ "object"=some [.type "object"] from by kernel_rfl)
 |some l=>exact ⟨_,rfl⟩
theorem Jq{l:List (String×V)}{m:String}(h:l.lookup m=none):∀p∈l,QJ p.1≠QJ m:=λp hp e=>absurd (List.lookup_eq_none_iff.mp h p hp) (by(refine aa (lH e) ?_;rewrite [bne_self_eq_false]);exact SD)
section
variable{B:Bs}{σ φ:Map}{s:QT}{A:Rg}{E:QS->QT->Prop}{a d:Q5}{n m:String}{l:List (String×V)}{w:QS}
theorem JW{pl:Sem Bool}{G:QS×List QS->QT->Prop}(S:ag B σ φ s)(h1:σ a=some (.ins n d))(h2:σ d=some (.aF l))(h3:l.lookup m=none)(hf:B.bD (n++"."++m)=some w)(q:G (w,[.ref a]) s):wpAny B.M A (getMethod (.ref a) (QJ m) pl) G E s:=
 ao (B7 (xw h1 h2) (S.l h1) (S.l h2)) λD mA i=>have K:=B.cls n D i.1;ao (K.me m w hf) λf of y=>(Je (QJ m)).elim λz hz=>
  method_of (S.rel.base _ _ K.obj) (K.ns.keeps S.rel.base) K.ga K.gt y.2.1 (S.rel.base _ _ y.2.2.1) y.2.2.2 hz i.2.1 (RY λh=>(i.2.2.2.1 _ h).elim λp e=>Jq h3 p e.1 e.2) (y.1▸q)
end
theorem IF{sc:RE}{env:Env}{es:Es}{l:List QL}{p:Pos}(m:cK sc es l)(f:iE l=true):methodCallForm (l.length+([]:List YC).length) (Y6 p (V6 l env)) (Z0 p (XA [] env))=true:=by
 rewrite [fS m];have h:((l.map λe=>(false,eval e env)).all λx=>!x.1)=true:=l.rec rfl λ_ _ ih=>ih;unfold methodCallForm;refine aa h ?_;exact Rc (QO (show l.length+0+0<=20 from Q0 f) (by decide))
inductive dK c m es Q σ:V->Prop
 |ins {a d:Q5} {n f:String} {l:List (String×V)}:σ a=some (.ins n d)->σ d=some (.aF l)->l.lookup m=none->n++"."++m=f->uL.contains f=true->cM c es σ (λvs σ=>Calls c.B c.n f (.r a::vs) σ Q c.X)->dK c m es Q σ (.r a)
 |app {a:Q5} {l:List V}:m="append"->σ a=some (.lst l)->cM c es σ (λvs σ=>∃x l,vs=[x]/\σ a=some (.lst l)/\l.length<ah/\Q (.d .none) (σ.put a (.lst (l++[x]))))->dK c m es Q σ (.r a)
 |ind {a:Q5} {l:List V}:m="index"->Rd c.B σ a (.lst l)->cM c es σ (Qf c.B Q a)->dK c m es Q σ (.r a)
 |get {a:Q5} {t:Nat} {l:List (QI×V)}:m="get"->Rd c.B σ a (.aj t l)->cM c es σ (Qh c.B Q a)->dK c m es Q σ (.r a)
 |zP {a:Q5} {t:Nat} {l:List (QI×V)}:m="setdefault"->σ a=some (.aj t l)->cM c es σ (λvs σ=>∃k x t t' l,vs=[.d k,x]/\σ a=some (.aj t l)/\l.length<ah/\kd k=t'/\t'≠0/\t'≠2/\(t=0\/t=t')/\iR Q a l t' k x σ)->dK c m es Q σ (.r a)
section
variable{c:Cx}{σ φ:Map}{s:QT}{Q:V->Map->Prop}{e:E}{es:Es}{m:String}
theorem qi{A:Rg}{env:Env}{sc:RE}{o:QL}{q p:Pos}{l:List QL}{u f:QS}{G:QS->QT->Prop}{E:QS->QT->Prop}(ml:cK sc es l)(hq:q.endLine=p.line)(hl:iE l=true)(cf:iU c.B.h f)
  (hg:∀(pl:Sem Bool) G,G (f,[u]) s->wpAny c.B.M A (getMethod u (QJ m) pl) G E s)
  (k:wpAny c.B.M A (XS (l.map λe=>(false,eval e env))) (λus s'=>(∃τ,Rel c.B τ s')/\wpAny c.B.M A (T3 f (u::us)) G E s') E s):wpAny c.B.M A (methodCall o (QJ m) q p env u (l.length+([]:List YC).length) (Y6 p (V6 l env)) (Z0 p (XA [] env))) G E s:=by
 have hpos:methodCallPos true o env q p=pure p:=by unfold methodCallPos;(refine aa hq ?_;rewrite [beq_self_eq_true]);rfl
 unfold methodCall
 (refine aa (IF ml hl) ?_;rewrite [fS ml])
 exact QM (RA (hg _ _ (QM (WA hpos (oB cf k)))))
theorem Bg{B:Bs}{s:QT}{a:Q5}{l:List V}(x:B.aW s.heap a (.lst l)):s.TypeIs (.ref a) "list":=x.elim λo y=>⟨o,y.1,y.2.2.1⟩
theorem Av{B:Bs}{h:Rn}{a b:Q5}{l:List V}(x:B.aW h a (.lst l))(e:RT a=.ref b):∃o,h.get? b=some o/\o.dict=none:=x.elim λo y=>⟨o,(SV e)▸y.1,y.2.2.2.1⟩
theorem Au{B:Bs}{h:Rn}{a b:Q5}{t:Nat}{l:List (QI×V)}(x:B.aW h a (.aj t l))(e:RT a=.ref b):∃o,h.get? b=some o/\o.dict=none:=x.elim λo y=>⟨o,(SV e)▸y.1,y.2.2.1.2.1⟩
theorem Ev.met(hh:c.h=false)(h:Ev c e σ λv σ=>dK c m es Q σ v):Ev c (.met e m es) σ Q:=λA env sc φ s z t M S=>dS.inv M.b λfn l kw p M=>eN.inv M λo a q M=>have M:=cV M;have N:=cV M.2.2.2;have hq:q.endLine=p.line:=eq_of_beq N.1;have ml:cK sc es l:=N.2.2.2;(isNil.inv M.1).symm▸(eq_of_beq M.2.1:a=QJ m).symm▸by
 (rewrite [arm_eval_Call];refine aa (yx M.2.2.1) ?_)
 refine QM (aG (h A env sc φ s o t N.2.2.1 S) (λu s1 P=>QM (Sf (P.elim λv σ1 k r S1 tk=>?_))))
 have run:∀{F:List V->Map->Prop}{f:QS},cM c es σ1 F->(∀vs us σ2 s2,F vs σ2->ai (ak s2.heap) vs us->ag c.B σ2 φ s2->wpAny c.B.M A (T3 f (u::us)) (aA c.B φ s2.heap Q) (Px c.B φ (atAny env) c.X) s2)->
   wpAny c.B.M A (XS (l.map λe=>(false,eval e env))) (λus s'=>(∃τ,Rel c.B τ s')/\wpAny c.B.M A (T3 f (u::us)) (aA c.B φ s.heap Q) (Px c.B φ (atAny env) c.X) s') (Px c.B φ (atAny env) c.X) s1:=
  λhl k=>aG (hl A env sc φ s1 l t ml S1) (λus s2 P=>P.elim λvs σ2 q rs S2 tk2=>⟨⟨_,S2.rel⟩,aG (k vs us σ2 s2 q rs S2) (λ_ _ z=>z.after (tk.trans tk2))⟩)
 exact @dK.casesOn c m es Q σ1 (λv _=>ak s1.heap v u->wpAny c.B.M A (methodCall o (QJ m) q p env u (l.length+([]:List YC).length) (Y6 p (V6 l env)) (Z0 p (XA [] env))) (aA c.B φ s.heap Q) (Px c.B φ (atAny env) c.X) s1) v k
  (λh1 h2 h3 hf hm he r=>(c.B.met _ hm).elim λw hw=>r▸qi ml hq N.2.1 (c.B.yi _ w hw) (λpl G g=>JW S1 h1 h2 h3 (hf▸hw) g) (r▸run he λvs us σ2 s2 q rs S2=>q.at hw t (tX t hh) S2 (.cons r rs)))
  (λhm h1 he r=>r▸qi ml hq N.2.1 (.bN "list.append") (λpl G g=>hm▸Vg (Bg (S1.l h1)) WW PySem.F.slot_list_append PySem.F.type_list_append (λb e=>Av (S1.l h1) e) g)
   (r▸run he λvs us σ2 s2 q rs S2=>ao q λx l y=>(all1 (y.1▸rs:ai (ak s2.heap) [x] us)).elim λw z=>z.1▸r▸PI S2 y.2.1 y.2.2.1 z.2 y.2.2.2))
  (λhm h1 he r=>r▸qi ml hq N.2.1 (.bN "list.index") (λpl G g=>hm▸Vg (Bg (S1.read h1)) WW WV PySem.F.type_list_index (λb e=>Av (S1.read h1) e) g)
   (r▸run he λvs us σ2 s2 q rs S2=>az q λx ys i y=>(all1 (y.1▸rs:ai (ak s2.heap) [.d x] us)).elim λw z=>z.1▸r▸LC t.un S2 y.2.1 z.2 y.2.2.1 y.2.2.2.1 y.2.2.2.2))
  (λhm h1 he r=>r▸qi ml hq N.2.1 (.bN "dict.get") (λpl G g=>hm▸Vg (S1.read h1).dict WX Xq PySem.F.type_dict_get (λb e=>Au (S1.read h1) e) g)
   (r▸run he λvs us σ2 s2 q rs S2=>cm q λk x t' t'' l y=>ao (all2 (y.1▸rs:ai (ak s2.heap) [.d k,x] us)) λw w' z=>z.1▸r▸LW t.un S2 y.2.1 y.2.2.1 y.2.2.2.1 y.2.2.2.2.1 z.2.1 z.2.2 y.2.2.2.2.2))
  (λhm h1 he r=>r▸qi ml hq N.2.1 (.bN "dict.setdefault") (λpl G g=>hm▸Vg (S1.l h1).dict WX VP PySem.F.type_dict_setdefault (λb e=>Au (S1.l h1) e) g)
   (r▸run he λvs us σ2 s2 q rs S2=>cm q λk x t' t'' l y=>ao (all2 (y.1▸rs:ai (ak s2.heap) [.d k,x] us)) λw w' z=>z.1▸r▸GW t.un S2 y.2.1 y.2.2.1 y.2.2.2.1 y.2.2.2.2.1 y.2.2.2.2.2.1 y.2.2.2.2.2.2.1 z.2.1 z.2.2 y.2.2.2.2.2.2.2)) r
end
def rz(h:Rn)(k:Nat)(I:Q5)(u:QS)(i n:Nat):Prop:=∃a,u=.ref a/\k.casesOn (h.IsTupleIter I a i) λk=>k.casesOn (h.IsListIter I a i) λ_=>h.IsKeyIter I a i n n
inductive Src B σ:Nat->V->List V->Prop
 |tup {xs:List QI}:Src B σ 0 (.d (.tuple xs)) (xs.map V.d)
 |lst {a:Q5} {l:List V}:Rd B σ a (.lst l)->l.length<ah->Src B σ 1 (.r a) l
 |aj {a:Q5} {l:List (QI×V)}:Rd B σ a (.aj 1 l)->l.length<ah->Src B σ 2 (.r a) (l.map λp=>.d p.1)
def fQ(k:Nat)(u:QS)(i n:Nat)(o:Obj):Prop:=∃a,u=.ref a/\o.cls=.type (k.casesOn "tuple_iterator" λk=>k.casesOn "list_iterator" λ_=>"dict_keyiterator")/\o.data=.fields (k.casesOn #[.ref a,.int i 0] λk=>k.casesOn #[.ref a,.int i 0] λ_=>#[.ref a,.int i 0,.int n 0,.int n 0])
theorem eV{o:Obj}{fs:Array QS}(d:o.data=.fields fs):d0 o:=λ_ ⟨_,_,e⟩=>Vu (d.symm.trans e)
section
variable{B:Bs}{σ φ:Map}{s:QT}{A:Rg}{E:QS->QT->Prop}{I:Q5}{k i n:Nat}{v x:V}{u:QS}{l:List V}{o:Obj}{h:Rn}
theorem rz.raw(x:rz h k I u i n):∃o,h.get? I=some o/\d0 o/\fQ k u i n o:=x.elim λa y=>match k,y with
 |0,y=>y.2.elim λo z=>⟨o,z.1,eV z.2.2,a,y.1,z.2⟩
 |1,y=>y.2.elim λo z=>⟨o,z.1,eV z.2.2,a,y.1,z.2⟩
 |_+2,y=>y.2.elim λo z=>⟨o,z.1,eV z.2.2,a,y.1,z.2⟩
theorem fQ.of(x:fQ k u i n o)(g:h.get? I=some o):rz h k I u i n:=x.imp λa y=>match k,y with
 |0,y=>⟨y.1,o,g,y.2⟩
 |1,y=>⟨y.1,o,g,y.2⟩
 |_+2,y=>⟨y.1,o,g,y.2⟩
theorem hJ(g:h.get? I=some o)(c:d0 o):B.aW h I (.raw o):=⟨o,g,c,rfl⟩
theorem ag.drop{c:Cell}{h':Rn}{t:Nat}(S:ag B σ (φ.put I c) s)(n:φ I=none)(hs:acE I s.heap h'):ag B σ φ {s with heap:=h',toks:=t}/\ax s.heap h':=
 have na:=S.dm Map.a7;have tk:=λb o e q=>⟨o.slots,hs b o (λe'=>q ((S.r Map.a7).obj (e'▸e)).1) e⟩;have ne:∀{b d},(σ.join φ) b=some d->b≠I:=λe q=>nomatch(q▸e).symm.trans (join_none na n)
 ⟨⟨S.rel.to (λb o e=>hs b o (λq=>nomatch(q▸e).symm.trans (S.rel.out I c ((bf na).trans Map.a7))) (S.rel.base b o e)) tk λb d e=>.inl ⟨fX e bh λl r=>(bf l).trans ((Map.aO (ne e)).trans r),λo g=>hs b o (ne e) g⟩,
  λb q=>S.cA b ((Map.aO (λe=>q (e▸n)):φ.put I c b=φ b).symm▸q)⟩,tk⟩
def Iter(B:Bs)(σ φ:Map)(h₀:Rn)(k:Nat)(u:QS)(n:Nat)(r:QS)(s:QT):Prop:=∃I o,r=.ref I/\fQ k u 0 n o/\φ I=none/\ag B σ (φ.put I (.raw o)) s/\ax h₀ s.heap
theorem xr(S:ag B σ φ s){o:Obj}(x:fQ k u 0 n o)(c:d0 o):Iter B σ φ s.heap k u n (.ref s.heap.objs.size) {s with heap:=s.heap.push o}:=
 have f:=Ru (Rl _)
 ⟨_,o,rfl,x,(S.fresh f).2,S.p9 (λ_ _ e=>QY _ e) f λ_=>hJ (RS _ (x.elim λa y=>by obtain ⟨_,_,d,_⟩:=o;obtain rfl:d=_:=y.2.2;rfl)) c,jc⟩
theorem int_at{a:Q5}{l:List (QI×V)}(x:B.aW h a (.aj 1 l)):∃kvs,h.DictAt (YH B.prog B.w) a kvs l.length/\ai (λ(p:QI×V) q=>p.1=.int q.1/\ak h p.2 q.2) l kvs:=x.elim λo y=>ao y.2.2.2.2 λes ep z=>z.2.2.imp λkvs D=>⟨⟨o,es,y.1,y.2.2.1,z.2.1▸z.1,D.1,D.2.1,D.2.2.1⟩,D.2.2.2⟩
theorem B1(S:ag B σ φ s)(K:Src B σ k v l)(r:ak s.heap v u):wpAny B.M A (pyIter u) (Iter B σ φ s.heap k u l.length) E s:=
 @Src.casesOn B σ (λk v l _=>ak s.heap v u->wpAny B.M A (pyIter u) (Iter B σ φ s.heap k u l.length) E s) k v l K (λr=>ao r.rd λa us y=>y.1▸Yp y.2.1 (xr S ⟨a,rfl,rfl,rfl⟩ (eV rfl)))
  (λh _ r=>r▸(S.read h).lst.elim λus y=>wpAny_pyIter_list y.1 (xr S ⟨_,rfl,rfl,rfl⟩ (eV rfl)))
  (λh sz r=>r▸(int_at (S.read h)).elim λkvs y=>wpAny_pyIter_dict (S.mods h) y.1 (xr S ⟨_,rfl,rfl,by(rewrite [QX];refine aa y.2.length ?_);rfl⟩ (eV rfl))) r
end
section
variable{B:Bs}{σ φ:Map}{s:QT}{A:Rg}{E:QS->QT->Prop}{I:Q5}{k i n:Nat}{v x:V}{u:QS}{l:List V}{o:Obj}{h:Rn}
def yQ(B:Bs)(σ φ:Map)(h₀:Rn)(I:Q5)(k:Nat)(u:QS)(i n:Nat)(x:V)(r:Option QS)(s:QT):Prop:=∃w o,r=some w/\ak s.heap x w/\fQ k u (i+1) n o/\ag B σ (φ.put I (.raw o)) s/\ax h₀ s.heap
theorem wc{h':Rn}{w:QS}(S:ag B σ (φ.put I (.raw o)) s)(x':rz h' k I u (i+1) n)(hs:Sr I s.heap h')(r:ax s.heap h'->ak h' x w):yQ B σ φ s.heap I k u i n x (some w) {s with heap:=h'}:=
 x'.raw.elim λo' y=>have tk:=.but hs λb e=>((S.r Map.a7).obj e).1
  ⟨w,o',rfl,r tk,y.2.2,lD▸S.jb Map.a7 hs λ_=>hJ y.1 y.2.1,tk⟩
theorem Jy(S:ag B σ (φ.put I (.raw o)) s)(K:Src B σ k v l)(r:ak s.heap v u)(it:fQ k u i l.length o)(e:l[i]?=some x):wpAny B.M A (Yq (.ref I)) (yQ B σ φ s.heap I k u i l.length x) E s:=
 have g:=(S.r Map.a7).elim λo' y=>y.2.2▸y.1
 @Src.casesOn B σ (λk v l _=>ak s.heap v u->fQ k u i l.length o->l[i]?=some x->wpAny B.M A (Yq (.ref I)) (yQ B σ φ s.heap I k u i l.length x) E s) k v l K
  (λ{xs} r it e=>(it.of g).elim λa y=>ao r.rd λb us z=>(RH.mp (RJ.symm.trans e)).elim λd q=>(readsAll_get z.2.2 rfl i d q.1).elim λw g'=>
   have ab:=SV (z.1.symm.trans y.1)
   wpAny_pyNext_tuple_item y.2 (ab▸z.2.1) (TO▸g'.1) λh' y' hs=>wc S ⟨a,y.1,y'⟩ hs λtk=>q.2▸ak.mono tk ⟨sP r.1 q.1,g'.2⟩)
  (λ{b l} h _ r it e=>(it.of g).elim λa y=>(S.read h).lst.elim λus z=>(z.2.get i x e).elim λw g'=>
   have ab:=SV (r.symm.trans y.1)
   wpAny_pyNext_list_item y.2 (ab▸z.1) (TO▸g'.1) λh' y' hs=>wc S ⟨a,y.1,y'⟩ hs λtk=>g'.2.mono tk)
  (λ{b l} h _ r it e=>(it.of g).elim λa y=>(int_at (S.read h)).elim λkvs z=>(RH.mp (RJ.symm.trans e)).elim λp q=>(z.2.get i p q.1).elim λkv g'=>
   have ab:=SV (r.symm.trans y.1);have ln:=z.2.length;have y2:=(QX λp:QI×V=>V.d p.1)▸y.2
   wpAny_pyNext_dict_item (ln▸y2) (ln▸ab▸z.1) g'.1 λkey h' hk y' hs=>wc S ⟨a,y.1,(QX λp:QI×V=>V.d p.1).symm▸ln.symm▸y'⟩ hs λtk=>q.2▸g'.2.1▸(Value.isInt_shape (show Value.isInt kv.1 key=true from hk)).elim λt e=>e▸iy kv.1 t) r it e
theorem Jz(hh:A.handled=none)(n:φ I=none)(S:ag B σ (φ.put I (.raw o)) s)(K:Src B σ k v l)(r:ak s.heap v u)(it:fQ k u i l.length o)(e:l[i]?=none):wpAny B.M A (Yq (.ref I)) (λr s'=>r=none/\ag B σ φ s'/\ax s.heap s'.heap) E s:=
 have g:=(S.r Map.a7).elim λo' y=>y.2.2▸y.1;have le:=UL.mp e
 @Src.casesOn B σ (λk v l _=>ak s.heap v u->fQ k u i l.length o->l.length<=i->wpAny B.M A (Yq (.ref I)) (λr s'=>r=none/\ag B σ φ s'/\ax s.heap s'.heap) E s) k v l K
  (λ{xs} r it le=>(it.of g).elim λa y=>ao r.rd λb us z=>have ab:=SV (z.1.symm.trans y.1)
   wpAny_pyNext_tuple_end hh y.2 (ab▸z.2.1) (Xe (RG▸fV z.2.2▸QX V.d▸le)) λh' hs=>⟨rfl,S.drop n hs⟩)
  (λ{b l} h _ r it le=>(it.of g).elim λa y=>(S.read h).lst.elim λus z=>have ab:=SV (r.symm.trans y.1)
   wpAny_pyNext_list_end hh y.2 (ab▸z.1) (Xe (jv z.2▸le)) λh' hs=>⟨rfl,S.drop n hs⟩)
  (λ{b l} h _ r it le=>(it.of g).elim λa y=>(int_at (S.read h)).elim λkvs z=>
   have ab:=SV (r.symm.trans y.1);have ln:=z.2.length;have y2:s.heap.IsKeyIter I a i l.length l.length:=(QX λp:QI×V=>V.d p.1)▸y.2
   wpAny_pyNext_dict_end hh (ln▸y2) (ln▸ab▸z.1) (SN (ln▸QX (λp:QI×V=>V.d p.1)▸le)) λh' hs=>⟨rfl,S.drop n hs⟩) r it le
end
noncomputable def Cx.at(c:Cx)(ρ:aK):Cx:={c with ρ:=ρ}
def rq(κ ρ:aK):Prop:=∀x v,κ.lookup x=some v->ρ.lookup x=some v
structure Fr c A env sc(φ₀ φ:Map):Prop where
 at':At c A env sc φ
 i8:∀n,fY sc n=true->env.kindOf n=sc.names.lookup n/\(env.kindOf n=some .local\/(env.kindOf n=some .cell/\∃a,env.cells.lookup n=some a))
 bo:∃l,φ env.locals=some (.bo l)
 own:env.frame=some env.locals
 cell:∀n a,env.cells.lookup n=some a->(∃v,φ a=some (.bj v))/\φ₀ a=none
 inj:∀n m a,env.cells.lookup n=some a->env.cells.lookup m=some a->n=m
 sub:Sub φ₀ φ
 new:φ₀ env.locals=none
 qt:rq c.κ c.ρ
 je:c.x=none
structure bK where
 ay:aK->Map->Prop
 ret:V->Map->Prop
 cnt:aK->Map->Prop
def bL(c:Cx)(A:Rg)(env:Env)(sc:RE)(φ₀:Map)(h₀:Rn)(K:aK->Map->Prop)(s:QT):Prop:=∃ρ σ φ,K ρ σ/\Fr (c.at ρ) A env sc φ₀ φ/\ag c.B σ φ s/\ax h₀ s.heap
def bG(c:Cx)(A:Rg)(env:Env)(sc:RE)(φ₀:Map)(h₀:Rn)(K:bK)(f:ZE)(s:QT):Prop:=f.casesOn (bL c A env sc φ₀ h₀ K.ay s) False (bL c A env sc φ₀ h₀ K.cnt s) λu=>∃v σ φ,K.ret v σ/\ak s.heap v u/\Sub φ₀ φ/\ag c.B σ φ s/\ax h₀ s.heap
def cW(c:Cx)(A:Rg)(env:Env)(sc:RE)(φ₀:Map)(e:QS)(s:QT):Prop:=∃φ,Fr (c.at c.κ) A env sc φ₀ φ/\Px c.B φ (atAny env) c.X e s
def br(c:Cx)(S:S)(σ:Map)(K:bK):Prop:=∀(A:Rg) env sc(φ₀ φ) s z,Fr c A env sc φ₀ φ->A.handled=none->Ep sc S z->ag c.B σ φ s->wpAny c.B.M A (exec z env) (bG c A env sc φ₀ s.heap K) (cW c A env sc φ₀) s
def Ex(c:Cx)(S:Ss)(σ:Map)(K:bK):Prop:=∀(A:Rg) env sc(φ₀ φ) s z,Fr c A env sc φ₀ φ->A.handled=none->dI sc S z->ag c.B σ φ s->wpAny c.B.M A (execs z env) (bG c A env sc φ₀ s.heap K) (cW c A env sc φ₀) s
section
variable{c:Cx}{A:Rg}{env:Env}{sc:RE}{φ₀ φ σ:Map}{s:QT}{a:Q5}
theorem At.names{ρ:aK}(t:At c A env sc φ)(h:∀x v,ρ.lookup x=some v->c.ρ.lookup x=some v):At (c.at ρ) A env sc φ:=⟨t.fe,t.dep,t.fy,t.hd,t.fn,t.fN,t.bN,t.gl,t.bj,λx v i e=>t.var x v i (h x v e),t.oh⟩
theorem Fr.kept(t:Fr c A env sc φ₀ φ):Fr (c.at c.κ) A env sc φ₀ φ:=⟨t.at'.names t.qt,t.i8,t.bo,t.own,t.cell,t.inj,t.sub,t.new,λ_ _ e=>e,t.je⟩
theorem Fr.px{e:QS}(t:Fr c A env sc φ₀ φ)(x:Px c.B φ (atAny env) c.X e s):cW c A env sc φ₀ e s:=⟨φ,t.kept,x⟩
theorem Ns.cell{B:Bs}{h:Rn}{l:aK}{m:Str->Option QS}(x:h.Ns a m)(n:fo h l m):B.aW h a (.bo l):=az x λo es ep y=>⟨o,y.1,.dict y.2.1,es,ep,y.2.1,y.2.2.1,λx v e=>(n x v e).imp λ_ z=>⟨(y.2.2.2 _).trans z.1,z.2⟩⟩
theorem IsCell.cell{B:Bs}{h:Rn}{v:Option V}{u:Option QS}(x:h.IsCell a u)(n:yP h v u):B.aW h a (.bj v):=Q7 x λo y=>⟨o,y.1,λ_ ⟨_,_,e⟩=>Vu (y.2.symm.trans e),u,y.2,n⟩
theorem eG.put{l:List Env}{c:Cell}(h:eG φ l)(w:∀k,φ a=some (.bo k)->∃k',c=.bo k'):eG (φ.put a c) l:=λenv m=>(h env m).imp_right λy=>y.imp λL y=>y.elim λk z=>if e:L=a then(w k (e▸z.2)).elim λk' q=>⟨k',z.1,(QR e).trans (QQ some q)⟩ else⟨k,z.1,(QP e).trans z.2⟩
theorem lookup_cons_self{x:String}{v:V}{l:aK}:((x,v)::l).lookup x=some v:=Vr
theorem fG{x y:String}{v:V}{l:aK}(n:y≠x):((x,v)::l).lookup y=l.lookup y:=by exact aa Rx (aa (Q3.mpr n) rfl)
theorem Fr.bound{x:String}{v:V}{cl:Cell}(t:Fr c A env sc φ₀ φ)(n0:φ₀ a=none)(hk:c.κ.lookup x=none)(w:∀k,φ a=some (.bo k)->∃k',cl=.bo k')(w':∀u,φ a=some (.bj u)->∃u',cl=.bj u')
  (new:Var env (φ.put a cl) x v) (old:∀y u,y≠x->Var env φ y u->Var env (φ.put a cl) y u):Fr (c.at ((x,v)::c.ρ)) A env sc φ₀ (φ.put a cl):=
 ⟨⟨t.at'.fe.imp λ_ y=>y.imp λ_ z=>⟨z.1,z.2.1,z.2.2.put w⟩,t.at'.dep,t.at'.fy,t.at'.hd,t.at'.fn,t.at'.fN,t.at'.bN,t.at'.gl,t.at'.bj,λy u i e=>if q:y=x then by subst q;exact QK (lookup_cons_self.symm.trans e)▸new else old y u q (t.at'.var y u i ((fG q).symm.trans e)),λy p q e=>nomatch t.je.symm.trans e⟩,
  t.i8,t.bo.elim λl z=>if e:env.locals=a then(w l (e▸z)).imp λk' q=>(QR e).trans (QQ some q) else⟨l,(QP e).trans z⟩,t.own,λn b hb=>⟨(t.cell n b hb).1.elim λu z=>if e:b=a then(w' u (e▸z)).imp λ_ q=>(QR e).trans (QQ some q) else⟨u,(QP e).trans z⟩,(t.cell n b hb).2⟩,t.inj,
  λb d e=>(QP λq=>nomatch(q▸e).symm.trans n0:φ.put a cl b=φ b).trans (t.sub b d e),t.new,λy u e=>if q:y=x then nomatch(q▸e).symm.trans hk else(fG q).trans (t.qt y u e),t.je⟩
end
section
variable{c:Cx}{A:Rg}{env:Env}{sc:RE}{φ₀ φ σ:Map}{s:QT}{a:Q5}{E:QS->QT->Prop}{ρ:aK}
def Bound(c:Cx)(A:Rg)(env:Env)(sc:RE)(φ₀ σ:Map)(h₀:Rn)(ρ:aK)(s:QT):Prop:=∃φ,Fr (c.at ρ) A env sc φ₀ φ/\ag c.B σ φ s/\ax h₀ s.heap
theorem ag.k8{c₀:Cell}{B:Bs}{h':Rn}(S:ag B σ φ s)(e:φ a=some c₀)(hs:Sr a s.heap h'):ax s.heap h':=S.rel.tup ((bf (S.dm e)).trans e) hs
theorem AL{l:aK}{v:Option V}{b:Q5}(e:φ a=some (.bo l))(e':φ b=some (.bj v)):b≠a:=λq=>nomatch(q▸e').symm.trans e
theorem fo.cons{h h':Rn}{l:aK}{m:Str->Option QS}{x:String}{v:V}{u:QS}(n:fo h l m)(tk:ax h h')(r:ak h v u):fo h' ((x,v)::l) (λy=>if y=QJ x then some u else m y):=λy w e=>
 if q:y=x then by subst q;exact ⟨u,QR rfl,(QK (lookup_cons_self.symm.trans e))▸r.mono tk⟩ else(n y w ((fG q).symm.trans e)).imp λz i=>⟨(QP λg=>q (lH g)).trans i.1,i.2.mono tk⟩
theorem jW{M:Ub}{x:String}{v:V}{u:QS}(t:Fr c A env sc φ₀ φ)(hx:fY sc (QJ x)=true)(hk:c.κ.lookup x=none)(S:ag c.B σ φ s)(r:ak s.heap v u):wpAny M A (storeName env (QJ x) u) (λ_ s'=>Bound c A env sc φ₀ σ s.heap ((x,v)::c.ρ) s') E s:=
 t.bo.elim λl hl=>(t.i8 _ hx).2.elim
  (λkl=>(S.r hl).bo.elim λm y=>Xr kl y.1 (λh' hn hs=>⟨φ.put env.locals (.bo ((x,v)::l)),t.bound t.new hk (λ_ _=>⟨_,rfl⟩) (λu e=>nomatch e.symm.trans hl) (.inl ⟨kl,_,Map.a7,lookup_cons_self⟩)
    λy u n h=>h.imp (λq=>⟨q.1,q.2.elim λl' z=>⟨_,Map.a7,(fG n).trans (show l.lookup y=some u from(Cell.bo.inj (QK (hl.symm.trans z.1)))▸z.2)⟩⟩) λq=>⟨q.1,q.2.imp λb z=>⟨z.1,(Map.aO (AL hl z.2)).trans z.2⟩⟩,
   S.jb hl hs λtk=>Ns.cell hn (y.2.cons tk r),S.k8 hl hs⟩) (by refine aa t.at'.fn ?_;rfl))
  λkc=>kc.2.elim λa ha=>(t.cell _ a ha).1.elim λv0 hv=>(S.r hv).bj.elim λu0 y=>wpAny_storeName_cell t.at'.fn kc.1 ha y.1 λh' hn hs=>⟨φ.put a (.bj (some v)),t.bound (t.cell _ a ha).2 hk (λ_ e=>nomatch e.symm.trans hv) (λ_ _=>⟨_,rfl⟩) (.inr ⟨.inl kc.1,a,ha,Map.a7⟩)
    λy u n h=>h.imp (λq=>⟨q.1,q.2.imp λl' z=>⟨(Map.aO (AL z.1 hv).symm).trans z.1,z.2⟩⟩) λq=>⟨q.1,q.2.imp λb z=>⟨z.1,(Map.aO λg:b=a=>n (lH (t.inj _ _ a (g▸z.1) ha))).trans z.2⟩⟩,
   S.jb hv hs λtk=>IsCell.cell hn λw e=>⟨u,rfl,QK e▸r.mono tk⟩,S.k8 hv hs⟩
def binds(xs:List String):List QI->aK->aK:=xs.rec (λ_ ρ=>ρ) λx _ f ds ρ=>ds.casesOn ρ λd ds=>f ds ((x,.d d)::ρ)
theorem Dj:∀{xs:List String}{vs:List QL},iM sc xs vs->(Yr vs env).length=xs.length/\(Yr vs env).findIdx? (·.1)=none
 |[],_,h=>h.nil▸⟨rfl,rfl⟩
 |x::xs,_,h=>h.cons λv vs h hs=>h.1.elim λp e=>e▸(Dj hs).imp (QQ TX) λi=>by
   refine aa (Ys) (aa i ?_);rfl
theorem Bound.after{h₀ h₁:Rn}(k:ax h₀ h₁)(x:Bound c A env sc φ₀ σ h₁ ρ s):Bound c A env sc φ₀ σ h₀ ρ s:=SY (λ_ y=>⟨y.1,y.2.1,k.trans y.2.2⟩) x
theorem Pt{M:Ub}{xs:List String}:∀{ρ:aK}{φ:Map}{vs:List QL}{ds:List QI}{us:List QS}{s:QT},Fr (c.at ρ) A env sc φ₀ φ->iM sc xs vs->(∀x∈xs,c.κ.lookup x=none)->ds.length=xs.length->ai (ak s.heap) (ds.map V.d) us->ag c.B σ φ s->
  wpAny M A (assignInOrder ((Yr vs env).map (·.2)) us) (λ_ s'=>Bound c A env sc φ₀ σ s.heap (binds xs ds ρ) s') E s:=by
 induction xs with
 |nil=>
  intro ρ φ vs ds us s t ht hk hl r S;obtain rfl:=WT.mp hl;obtain rfl:=all_nil r;obtain rfl:=ht.nil;exact wpAny_assignInOrder_none ⟨φ,t,S,.refl _⟩
 |cons x xs ih=>
  intro ρ φ vs ds us s t ht hk hl r S
  cases ds with
  |nil=>exact nomatch hl
  |cons d ds=>
   refine ao (all_cons r) λu us y=>y.1▸ht.cons λv vs h hs=>h.1.elim λp e=>e▸?_;refine wpAny_assignInOrder_more (Vh (aG (jW t h.2 (hk x (.head _)) S y.2.1) (λ_ s1 P=>?_)));exact Q7 P λφ1 P=>aG (ih P.1 hs (λz m=>hk z (.tail _ m)) (Xf hl) (jw P.2.2 y.2.2) P.2.1) (λ_ _ z=>Bound.after P.2.2 z)
inductive jC(Q:aK->Prop)(c:Cx) xs:V->Prop
 |one {x:String} {v:V}:xs=[x]->Q ((x,v)::c.ρ)->jC Q c xs v
 |tup {ds:List QI}:2<=xs.length->ds.length=xs.length->Q (binds xs ds c.ρ)->jC Q c xs (.d (.tuple ds))
theorem Jd{h:Rn}{us:List QS}{ds:List QI}(ok:aP (.tuple ds)=true)(r:Sn h us ds []):ai (ak h) (ds.map V.d) us:=
 have k:∀{ds us},ai (λd u=>UN h u d []) ds us->(∀d∈ds,aP d=true)->ai (ak h) (ds.map V.d) us:=λx=>x.rec (λ_=>.nil) λ{a b as bs} r _ ih m=>.cons ⟨m a (.head _),r⟩ (ih λd q=>m d (.tail _ q))
 k (vN r rfl) λd m=>(List.mem_iff_getElem?.mp m).elim λi e=>sP ok e
theorem zx{xs:List String}{z:QL}{v:V}{u:QS}{Q:aK->Prop}(hh:A.handled=none)(t:Fr c A env sc φ₀ φ)(ht:jz sc xs z)(hk:∀x∈xs,c.κ.lookup x=none)(K:jC Q c xs v)(S:ag c.B σ φ s)(r:ak s.heap v u):
  wpAny c.B.M A (assign z env u) (λ_ s'=>∃ρ,Q ρ/\Bound c A env sc φ₀ σ s.heap ρ s') E s:=
 @jC.casesOn Q c xs (λv _=>ak s.heap v u->wpAny c.B.M A (assign z env u) (λ_ s'=>∃ρ,Q ρ/\Bound c A env sc φ₀ σ s.heap ρ s') E s) v K
  (λ{x v} e q r=>ht.elim (λy=>y.elim λx' y=>y.2.1.elim λp g=>g▸Vh (aG (jW t y.2.2 (hk _ (y.1▸.head _)) S r) (λ_ _ P=>⟨_,(RB (e.symm.trans y.1)).1▸q,P⟩))) λy=>y.elim λl y=>(UB 1 (e▸y.2.1:2<=[x].length)).elim)
  (λ{ds} h2 hl q r=>ht.elim (λy=>y.elim λx' y=>(UB 1 (y.1▸h2:2<=[x'].length)).elim) λy=>y.elim λl y=>ao y.1 λk p g=>g▸ao r.rd λa us w=>w.1▸have sh:=Dj y.2.2
   wpAny_assign_Tuple hh w.2.1 (sh.1.trans (hl.symm.trans ((fV w.2.2).symm.trans RG))) sh.2 λh' hx=>have hk':=λb o e=>hx b o (SP (Vi e)) e
    aG (Pt t y.2.2 hk hl (jw (.of hk') (Jd r.1 w.2.2)) (S.more hk')) (λ_ _ P=>⟨_,q,P.after (.of hk')⟩)) r
end
theorem lj{v:QL}{t:Option QL}{l:Nat}{env:Env}(h:hZ v=true):V1 v t l env=pure false:=by
 cases v with
 |ListComp _ _ _ _=>exact ff h
 |SetComp _ _ _ _=>exact ff h
 |DictComp _ _ _ _ _=>exact ff h
 |_=>rfl
section
variable{c:Cx}{A:Rg}{env:Env}{sc:RE}{φ₀ φ σ:Map}{s:QT}{K:bK}{e:E}{h₀:Rn}
theorem bL.of{Q:aK->Map->Prop}{ρ:aK}(b:Bound c A env sc φ₀ σ h₀ ρ s)(q:Q ρ σ):bL c A env sc φ₀ h₀ Q s:=Q7 b λφ y=>⟨ρ,σ,φ,q,y.1,y.2.1,y.2.2⟩
theorem bL.here{Q:aK->Map->Prop}(t:Fr c A env sc φ₀ φ)(S:ag c.B σ φ s)(q:Q c.ρ σ)(tk:ax h₀ s.heap):bL c A env sc φ₀ h₀ Q s:=⟨c.ρ,σ,φ,q,t,S,tk⟩
theorem bL.after{Q:aK->Map->Prop}{h₁:Rn}(tk:ax h₀ h₁)(x:bL c A env sc φ₀ h₁ Q s):bL c A env sc φ₀ h₀ Q s:=az x λρ σ φ y=>⟨ρ,σ,φ,y.1,y.2.1,y.2.2.1,tk.trans y.2.2.2⟩
theorem bG.after{h₁:Rn}{f:ZE}(tk:ax h₀ h₁)(x:bG c A env sc φ₀ h₁ K f s):bG c A env sc φ₀ h₀ K f s:=@Flow.casesOn (λf=>bG c A env sc φ₀ h₁ K f s->bG c A env sc φ₀ h₀ K f s) f (λx=>bL.after tk x) (λx=>x) (λx=>bL.after tk x) (λu x=>az x λv σ φ y=>⟨v,σ,φ,y.1,y.2.1,y.2.2.1,y.2.2.2.1,tk.trans y.2.2.2.2⟩) x
theorem Fr.ev{Q:V->Map->Prop}{G:QS->QT->Prop}{z:QL}(t:Fr c A env sc φ₀ φ)(h:Ev c e σ Q)(m:bq sc e z)(S:ag c.B σ φ s)(k:∀u s' v σ',Q v σ'->ak s'.heap v u->ag c.B σ' φ s'->ax s.heap s'.heap->G u s'):wpAny c.B.M A (eval z env) G (cW c A env sc φ₀) s:=RF (h A env sc φ s z t.at' m S) (λu s' P=>P.elim λv σ' q r S' tk=>k u s' v σ' q r S' tk) λ_ _ x=>t.px x
theorem Ex.nil(q:K.ay c.ρ σ):Ex c .nil σ K:=λA env sc φ₀ φ s z t hh m S=>m.nil▸UY (bL.here t S q (.refl _))
noncomputable def bK.seq(c:Cx)(S:Ss)(K:bK):bK:={K with ay:=λρ σ=>Ex (c.at ρ) S σ K}
theorem Ex.cons{S:S}{R:Ss}(h:br c S σ (K.seq c R)):Ex c (.cons S R) σ K:=λA env sc φ₀ φ s z t hh m S'=>m.cons λy ys m ms=>Vw (RF (h A env sc φ₀ φ s y t hh m S')
 (λf s1 P=>@Flow.casesOn (λf=>bG c A env sc φ₀ s.heap (K.seq c R) f s1->(match f with|.next=>wpAny c.B.M A (execs ys env) (bG c A env sc φ₀ s.heap K) (cW c A env sc φ₀) s1|f=>bG c A env sc φ₀ s.heap K f s1)) f
  (λP=>az P λρ σ1 φ1 y=>aG (y.1 A env sc φ₀ φ1 s1 ys y.2.1 hh ms y.2.2.1) (λ_ _ z=>bG.after y.2.2.2 z)) (λP=>P) (λP=>P) (λ_ P=>P) P) λ_ _ z=>z)
theorem br.ex(h:Ev c e σ λ_ σ=>K.ay c.ρ σ):br c (.ex e) σ K:=λA env sc φ₀ φ s z t hh m S=>pD.inv m λv p m=>have m:=ae m;
 wpAny_Expr_any (t.ev h m.2 S λu s1 v σ1 q r S1 tk=>bL.here t S1 q tk) (show(_&&_)=false by refine aa t.at'.fn ?_;rfl) (lj m.1)
theorem br.ret(h:Ev c e σ K.ret):br c (.ret e) σ K:=λA env sc φ₀ φ s z t hh m S=>g7.inv m λv p m=>cg.inv m λv m=>YQ (t.ev h m S λu s1 v σ1 q r S1 tk=>⟨v,σ1,φ,q,r,t.sub,S1,tk⟩)
theorem br.g8(q:K.ret (.d .none) σ):br c .g8 σ K:=λA env sc φ₀ φ s z t hh m S=>g7.inv m λv p m=>(cS.inv m).symm▸wpAny_Return_none ⟨_,σ,φ,q,s8,t.sub,S,.refl _⟩
theorem br.cont(q:K.cnt c.ρ σ):br c .cont σ K:=λA env sc φ₀ φ s z t hh m S=>pE.inv m λp _=>wpAny_Continue (bL.here t S q (.refl _))
theorem br.ifs{t:E}{a b:Ss}(h:Ts c t σ (oV (λσ=>Ex c a σ K) (λσ=>Ex c b σ K))):br c (.ifs t a b) σ K:=λA env sc φ₀ φ s z t' hh m S=>pC.inv m λx y w p m=>have m:=dG m;
 wpAny_If (RF (h A env sc φ s x t'.at' m.1 S) (λd s1 P=>P.elim λσ1 k S1 tk=>d.casesOn
  (λk=>aG (k.2 rfl A env sc φ₀ φ s1 w t' hh m.2.2 S1) (λ_ _ z=>z.after tk)) (λk=>aG (k.1 rfl A env sc φ₀ φ s1 y t' hh m.2.1 S1) (λ_ _ z=>z.after tk)) k) λ_ _ x=>t'.px x)
theorem br.asg{x:String}(n:Uu (kE e) 1=false)(hk:c.κ.lookup x=none)(h:Ev c e σ λv σ=>K.ay ((x,v)::c.ρ) σ):br c (.asg x e) σ K:=λA env sc φ₀ φ s z t hh m S=>cY.inv m λl v p m=>have m:=ae m;a8.inv m.1 λtg g=>have g:gq sc x tg:=cO.inv g;g.1.elim λq g'=>g'▸
 YR (t.ev h m.2 S λu s1 v σ1 q r S1 tk=>aG (jW t g.2 hk S1 r) (λ_ s2 P=>bL.of (P.after tk) q)) (lj (bq.plain m.2 n))
theorem Jr{sc:RE}{xs:List String}{tg v:QL}(ht:jz sc xs tg)(h:kV v≠5):swappedStores [tg] v env=pure none:=ht.elim (λy=>y.elim λ_ y=>y.2.1.elim λp e=>e▸rfl) λy=>y.elim λl y=>ao y.1 λk p e=>e▸by
 cases v with
 |Tuple _ _ _=>exact absurd rfl h
 |_=>rfl
theorem PA{M:Ub}{xs:List String}{tg:QL}{u:QS}{G:Unit->QT->Prop}{E:QS->QT->Prop}(ht:jz sc xs tg)(h:wpAny M A (assign tg env u) G E s):wpAny M A (assignAll u ((Yr [tg] env).map (·.2))) G E s:=ht.elim (λy=>y.elim λ_ y=>y.2.1.elim λp e=>by subst e;exact h) λy=>y.elim λl y=>ao y.1 λk p e=>by subst e;exact h
theorem br.fP{xs:List String}(n:kE e=0)(hk:∀x∈xs,c.κ.lookup x=none)(h:Ev c e σ λv σ=>jC (λρ=>K.ay ρ σ) c xs v):br c (.fP xs e) σ K:=λA env sc φ₀ φ s z t hh m S=>cY.inv m λl v p m=>have m:=dG m;a8.inv m.1 λtg g=>have g:jz sc xs tg:=gH.inv g;
 wpAny_Assign_stores (t.ev h m.2.2 S λu s1 v σ1 q r S1 tk=>(PA g (aG (zx hh t g hk q S1 r) (λ_ s2 P=>Q7 P λρ P=>bL.of (P.2.after tk) P.1)))) (show V1 v (some tg) p.line env=pure false from lj m.2.1) (Jr g (bq.kv m.2.2▸n▸nofun))
end
def fE(l:aK)(x:String)(v:V):aK:=l.rec [(x,v)] λp t r=>if p.1=x then(x,v)::t else p::r
section
variable{l:aK}{x y:String}{v:V}
theorem vT{p:String×V}:fE (p::l) x v=if p.1=x then(x,v)::l else p::fE l x v:=rfl
theorem Iv:(fE l x v).lookup x=some v:=l.rec lookup_cons_self λp t ih=>by
 refine aa vT ?_;by_cases e:p.1=x
 ·refine aa (QR e) ?_;exact lookup_cons_self
 ·refine aa (QP e) (aa Rx (aa (Q3.mpr (UG e)) ?_));exact ih
theorem Iw(n:y≠x):(fE l x v).lookup y=l.lookup y:=l.rec (fG n) λp t ih=>by
 refine aa vT ?_;by_cases e:p.1=x
 ·exact aa (QR e) (aa (fG n) (aa Rx (aa e (aa (Q3.mpr n) rfl))))
 ·refine aa (QP e) (aa Rx (aa ih ?_));exact Rx.symm
theorem sr:∀{l:aK}{z:String},z=x\/(∃p∈l,p.1=z)->∃p∈fE l x v,p.1=z
 |[],z,h=>h.elim (λe=>⟨_,.head _,e.symm⟩) λy=>y.elim λ_ y=>nomatch y.1
 |p::t,z,h=>by
  refine aa vT ?_;by_cases e:p.1=x
  ·refine aa (QR e) ?_;exact h.elim (λe=>⟨_,.head _,e.symm⟩) λy=>y.elim λq y=>(QZ.mp y.1).elim (λg=>⟨_,.head _,(e.symm.trans ((QQ acG g).symm.trans y.2):x=z)⟩) λg=>⟨q,.tail _ g,y.2⟩
  ·refine aa (QP e) ?_;exact h.elim (λe=>(sr (.inl e)).imp λ_ y=>⟨.tail _ y.1,y.2⟩) λy=>y.elim λq y=>(QZ.mp y.1).elim (λg=>⟨q,g▸.head _,y.2⟩) λg=>(sr (.inr ⟨q,g,y.2⟩)).imp λ_ y=>⟨.tail _ y.1,y.2⟩
end
section
variable{B:Bs}{σ φ:Map}{s:QT}{A:Rg}{E:QS->QT->Prop}{Q:Map->Prop}{a d:Q5}{n x:String}{l:aK}{w:V}{y:QS}
theorem put2{c₀ c₁ c:Cell}{h':Rn}{tk:Nat}(S:ag B σ φ s)(ea:σ a=some c₀)(ed:σ d=some c₁)(k:∀b o,b≠a->b≠d->s.heap.get? b=some o->h'.get? b=some o)(xa:ax s.heap h'->B.aW h' a c₀)(xd:ax s.heap h'->B.aW h' d c)(n:a≠d)(q:Q (σ.put d c)):dY B φ s.heap Q {s with heap:=h',toks:=tk}:=
 have R:=S.rel;have oa:=R.out a _ (bh ea);have od:=R.out d _ (bh ed);have tk:=λb o e g=>⟨o.slots,k b o (λq=>g ((S.l ea).obj (q▸e)).1) (λq=>g ((S.l ed).obj (q▸e)).1) e⟩
 ⟨σ.put d c,q,⟨R.to (λb o e=>k b o (λq=>nomatch(q▸e).symm.trans oa) (λq=>nomatch(q▸e).symm.trans od) (R.base b o e)) tk λb e g=>if q:b=d then .inr (by subst q;exact ⟨QK ((bh Map.a7).symm.trans g)▸xd tk,od⟩) else if q':b=a then .inr (by subst q';exact ⟨QK ((bh ((Map.aO n).trans ea)).symm.trans g)▸xa tk,oa⟩) else
   .inl ⟨fX g (λz=>bh ((Map.aO q).symm.trans z)) λz z'=>(bf ((Map.aO q).symm.trans z)).trans z',λo=>k b o q' q⟩,
  λb g=>if q:b=d then by subst q;exact absurd (S.cA b g) (λz=>nomatch z.symm.trans ed) else(Map.aO q).trans (S.cA b g)⟩,tk⟩
theorem zL(S:ag B σ φ s)(hx:jM.contains x=true)(ha:σ a=some (.ins n d))(hd:σ d=some (.aF l))(sz:l.length<ah)(r:ak s.heap w y)(q:Q (σ.put d (.aF (fE l x w)))):wpAny B.M A (WK (.ref a) (QJ x) y) (λ_ s'=>dY B φ s.heap Q s') E s:=
 have nad:=xw ha hd
 ao (S.l ha).ins λD o i=>(S.l hd).aF.elim λm j=>by
  have K:=B.cls n D i.1;have P:∀h' tk,(∀b o,b≠a->b≠d->s.heap.get? b=some o->h'.get? b=some o)->(ax s.heap h'->B.aW h' a (.ins n d))->(ax s.heap h'->B.aW h' d (.aF (fE l x w)))->dY B φ s.heap Q {s with heap:=h',toks:=tk}:=λh' tk k xa xd=>put2 S ha hd k xa xd nad.symm q;obtain ⟨hp,g,dr,tk,os⟩:=s
  refine store_attr PySem.F.store_object (S.rel.base _ _ K.obj) (K.ns.keeps S.rel.base) K.sa (K.at' x hx) (D7 hx) (λe=>nomatch(e▸K.obj).symm.trans (S.rel.out a _ (bh ha))) ⟨o,i.2.1,i.2.2.1,i.2.2.2.2,.inr ⟨d,i.2.2.2.1,nad,j.1⟩⟩ (λh' tk' I' hk hs=>?_)
   (λz hz=>(j.2.2 z hz).elim λp e=>e.2▸SM e.1) (QX (as:=l) (λp=>QJ p.1)▸QN (VY sz) uQ)
  refine (hs o i.2.1).elim λo1 g1=>Q7 I' λo2 g2=>?_;have e12:=QK (g1.1.symm.trans g2.1);have d1:=g1.2.2.2.2 d i.2.2.2.1;refine P h' tk' (λb ob n1 n2 e=>hk b ob n1 (λo₀ dx q1 q2 e=>n2 (e.trans (QK (q2.symm.trans ((QK (i.2.1.symm.trans q1))▸i.2.2.2.1))))) e) (λ_=>⟨o1,g1.1,.of (v:=.ref D.C) (e12▸g2.2.1) nofun,⟨D.C,QQ (U0 _) i.1,e12▸g2.2.1⟩,d1,e12▸g2.2.2.1⟩) λtk=>?_;refine g2.2.2.2.elim (λz=>nomatch(e12▸z.1).symm.trans d1) λz=>z.elim λd' z=>?_;have ed:=QK ((e12▸z.1).symm.trans d1);refine az (ed▸z.2.2) λod es ep v=>⟨od,v.1,.dict v.2.1,es,ep,v.2.1,v.2.2.1,v.2.2.2.1,λz u e=>?_,λz hz=>?_⟩
  ·exact if q:z=x then by subst q;exact ⟨y,(v.2.2.2.2 _).trans (QR rfl),QK (Iv.symm.trans e)▸r.mono tk⟩ else(j.2.1 z u ((Iw q).symm.trans e)).imp λ_ g=>⟨(v.2.2.2.2 _).trans ((QP λg=>q (lH g)).trans g.1),g.2.mono tk⟩
  ·rw [v.2.2.2.2] at hz
   exact if q:z=QJ x then(sr (.inl rfl)).imp λp g=>⟨g.1,(QQ QJ g.2).trans q.symm⟩ else(j.2.2 z λg=>hz ((QP q).trans g)).elim λp g=>(sr (.inr ⟨p,g.1,rfl⟩)).imp λp' g'=>⟨g'.1,(QQ QJ g'.2).trans g.2⟩
end
def Qm(x:String)(Q:Map->Prop)(w v:V)(σ:Map):Prop:=∃a n d l,v=.r a/\σ a=some (.ins n d)/\σ d=some (.aF l)/\l.length<ah/\Q (σ.put d (.aF (fE l x w)))
def Qn(c:Cx)(o:E)(x:String)(Q:Map->Prop)(w:V)(σ:Map):Prop:=Ev c o σ (Qm x Q w)
def Qg(c:Cx)(o i:E)(Q:Map->Prop)(w:V)(σ:Map):Prop:=Ev c o σ λv σ=>Ev c i σ λk σ=>oR Q σ v k w
theorem GA{sc:RE}{n:Str}(h:fY sc n=true):jl sc n=true:=Q8.mpr ⟨(ae h).1,by
 have h:=(ae h).2;generalize sc.names.lookup n=r at h⊢
 cases r with
 |none=>exact ff h
 |some k=>cases k<;>first|rfl|exact ff h⟩
section
variable{c:Cx}{A:Rg}{env:Env}{sc:RE}{φ₀ φ σ:Map}{s:QT}{K:bK}{e o i:E}{h₀:Rn}
theorem dY.xK{c:Cx}{Q:aK->Map->Prop}(t:Fr c A env sc φ₀ φ)(tk:ax h₀ s.heap){s':QT}(x:dY c.B φ s.heap (Q c.ρ) s'):bL c A env sc φ₀ h₀ Q s':=Q7 x λσ y=>bL.here t y.2.1 y.1 (tk.trans y.2.2)
theorem br.gp{x:String}(h:Ev c e σ (Qn c o x (K.ay c.ρ))):br c (.gp o x e) σ K:=λA env sc φ₀ φ s z t hh m S=>cY.inv m λl v p m=>have m:=dG m;a8.inv m.1 λtg n=>eN.inv (bq.b n) λo' a q n=>have n:=cV n;eq_of_beq n.1▸
 T8 (t.ev h m.2.2 S λu s1 w σ1 q r S1 tk=>t.ev q n.2.2.2 S1 λu' s2 v σ2 k r2 S2 tk2=>jt k λa n' d l k=>r2.ref k.1▸aG (zL S2 n.2.1 k.2.1 k.2.2.1 k.2.2.2.1 (r.mono tk2) k.2.2.2.2) (λ_ _ P=>dY.xK t (tk.trans tk2) P)) (lj m.2.1)
theorem br.kD(h:Ev c e σ (Qg c o i (K.ay c.ρ))):br c (.kD o i e) σ K:=λA env sc φ₀ φ s z t hh m S=>cY.inv m λl v p m=>have m:=dG m;a8.inv m.1 λtg n=>fK.inv (bq.b n) λo' k q n=>have n:=ae n;
 wpAny_Assign_Subscript (t.ev h m.2.2 S λu s1 w σ1 q r S1 tk=>t.ev q n.1 S1 λu' s2 v σ2 q r2 S2 tk2=>t.ev q n.2 S2 λu'' s3 k σ3 q r3 S3 tk3=>
  aG (G2 t.at'.un S3 q (r2.mono tk3) r3 ((r.mono tk2).mono tk3)) (λ_ _ P=>dY.xK t ((tk.trans tk2).trans tk3) P)) (lj m.2.1)
def Ql(c:Cx)(x:String)(Q:aK->Map->Prop)(i:Int)(v:V)(σ:Map):Prop:=∃j,v=.d (.int j)/\Q ((x,.d (.int (i+j)))::c.ρ) σ
theorem br.aug{x:String}{i:Int}(hd:nk (QJ x)=true)(hk:c.κ.lookup x=none)(hi:c.ρ.lookup x=some (.d (.int i)))(h:Ev c e σ (Ql c x K.ay i)):br c (.aug x e) σ K:=λA env sc φ₀ φ s z t hh m S=>pF.inv m λtg op v p m=>have m:=dG m;have g:gq sc x tg:=cO.inv m.2.1;eq_of_beq m.1▸g.1.elim λq g'=>g'▸
 wpAny_AugAssign_Name (w1 S t.at'.fn (t.at'.var x _ (GA g.2) hi) hd λu r=>t.ev h m.2.2 S λu' s1 v σ1 q r1 S1 tk=>Q7 q λj q=>r.rd.elim λt1 e1=>e1▸(q.1▸r1:ak s1.heap (.d (.int j)) u').rd.elim λt2 e2=>e2▸
  AutoIntOps.iadd_0 (aG (jW t g.2 hk S1.same (iy _ _)) (λ_ s2 P=>bL.of (P.after tk) q.2)))
end
end
section
open _root_.PySem _root_.PySem.Calls PyProof.Rows
open Builtin Builtin.ObjectAttr
abbrev gC.ob(x:gC):Obj:=U5 x.nm x.q x.a x.N x.bs (.ref x.D::dv) true x.sn x.sub x.ab x.col x.dd x.k0 x.k1 x.k2 x.k3 x.k5 "Exception.__new__"
set_option genCtorIdx false in
structure ExcAt(h:Rn)(x:gC):Prop where
 obj:h.get? x.a=some x.ob
 ns:h.Ns x.N x.mN
 sup:h.get? x.D=some {cls:=x.c0,dict:=x.Ds,data:=.cls x.cd,slots:=x.sl}
 pX:h.Ns x.cd.ns x.mD
theorem ExcAt.keeps{h h':Rn}{x:gC}(K:ExcAt h x)(k:∀b o,h.get? b=some o->h'.get? b=some o):ExcAt h' x:=⟨k _ _ K.obj,K.ns.keeps k,k _ _ K.sup,K.pX.keeps k⟩
theorem u1.at{h h':Rn}{mg:Str->Option QS}{x:gC}(e:u1 h mg x)(k:∀b o,h.get? b=some o->h'.get? b=some o):ExcAt h' x:=⟨k _ _ e.obj,e.ns.keeps k,k _ _ e.sup,e.pX.keeps k⟩
section
variable{M:Ub}{prog:RU}{w:Sz}{A:Rg}{E:QS->QT->Prop}{h:Rn}{g:Array Z1}{d:Drawn}{t:Nat}{os:XR}
variable{X:gC}
theorem k7{n:Str}{y:Option QS}{Q:Option QS->QT->Prop}(K:ExcAt h X)(hn:X.mN n=none)(hB:S6 (.type "Exception") n=pure y)
  (hq:Q (match X.mD n with|some v=>some v|none=>y) ⟨h,g,d,t,os⟩):wpAny M A (S6 (.ref X.a) n) Q E ⟨h,g,d,t,os⟩:=by
 have hrest:lookupAlong dv n=pure y:=by rw [typeLookup_eq,TQ.mroIs] at hB;exact hB
 rewrite [typeLookup_eq];refine QM (Xm K.obj ?_);rewrite [Zh];refine QM (wpAny_classOwn_exc K.obj K.ns ?_);refine aa hn ?_;refine (?_:wpAny M A (lookupAlong (.ref X.D::dv) n) _ _ _);rewrite [Zh];refine QM (wpAny_classOwn_cls K.sup K.pX ?_)
 cases hv:X.mD n with
 |some v=>rw [hv] at hq;exact QV hq
 |none=>rw [hv] at hq;refine aa hrest ?_;exact QV hq
theorem FA{rest:List QS}{Q:Unit->QT->Prop}(hC:h.get? X.a=some X.ob)(hq:Q () ⟨h,g,d,t,os⟩):
  wpAny M A (SJ "Exception.__new__" ⟨.ref X.a::rest,[]⟩) Q E ⟨h,g,d,t,os⟩:=wpAny_check_new_subU TQ (by rfl) .base hC hq
theorem Fv{R:W6->QT->Prop}{rest:List QS}(hC:h.get? X.a=some X.ob)
  (hq:R (.ok (.ret (.ref (h.objs.size+1)))) ⟨(h.push {cls:=.type "tuple",data:=.seq rest.toArray}).push
   {cls:=.ref X.a,data:=.fields #[.ref h.objs.size,.none,.none,.none,.bool false,.none]},g,d,t,os⟩) (hrest:rest.length<=TG):
  XX (model prog w) A (.builtin "Exception.__new__" ⟨.ref X.a::rest,[]⟩) R ⟨h,g,d,t,os⟩:=by
 have F:=TQ;have hends:=F.ends;have hcB:(RT X.a::.ref X.D::dv).contains (.type "Exception")=true:=by simp [dv]
 have hcA:(RT X.a::.ref X.D::dv).contains (.type "AttributeError")=false:=by simp [dv]
 have hcN:(RT X.a::.ref X.D::dv).contains (.type "NameError")=false:=by simp [dv]
 refine codeAny_builtinAt F.entry ?_;refine ZF ?_;refine ZF (PySem.wpAt_stack λp below=>X2 ?_);wp_walk;refine X2 ?_;refine aa F.owner ?_
 repeat(first|with_reducible refine wpAny_madeHere_exc F.canon hC ?_|with_reducible refine RD hC ?_|(with_reducible refine Tu hC ?_;first|refine aa hcB ?_|refine aa hcA ?_|refine aa hcN ?_)|wp_step)
 refine (?_:R _ _);rewrite [XB];exact hq
theorem Fm{rest:List QS}{fI:Q5}{oI:Obj}{Q:Fin->QT->Prop}(K:ExcAt h X)(hn:X.mN "__init__"=none)(hi:X.mD "__init__"=some (.ref fI))(hfI:h.get? fI=some oI)(hfc:oI.cls=.type "function")
  (hq:∀h' e,Z2 h h' e (.ref X.a) rest->wpAny (model prog w) A (call (.ref fI) (.ref e::rest)) (λr s'=>r=.none/\Q (.done (.ret (.ref e))) s') E ⟨h',g,d,t,os⟩) (hrest:rest.length<=TG):
  wpAny (model prog w) A (Builtin.«type.__call__» ⟨.ref X.a::rest,[]⟩) Q E ⟨h,g,d,t,os⟩:=by
 have hC:=K.obj;have F:=TQ
 repeat(first|with_reducible refine RD hC ?_|with_reducible refine Zi hC ?_|wp_step)
 refine Ws (Uk _ F.quiet) (FA hC ?_);refine Fv hC ?_ hrest;refine (?_:wpAny _ _ _ _ _ _)
 have up:∀b o,h.get? b=some o->((h.push {cls:=.type "tuple",data:=.seq rest.toArray}).push {cls:=.ref X.a,data:=.fields #[.ref h.objs.size,.none,.none,.none,.bool false,.none]}).get? b=some o:=
  λb o e=>QY _ (QY _ e)
 have hget:((h.push {cls:=.type "tuple",data:=.seq rest.toArray}).push
   {cls:=.ref X.a,data:=.fields #[.ref h.objs.size,.none,.none,.none,.bool false,.none]}).get? (h.objs.size+1)=some
   {cls:=.ref X.a,data:=.fields #[.ref h.objs.size,.none,.none,.none,.bool false,.none]}:=by heap_get
 have hcC:(RT X.a::.ref X.D::dv).contains (.ref X.a)=true:=by simp
 repeat(first|with_reducible refine RD hget ?_|(with_reducible refine Tu (up _ _ hC) ?_;refine aa hcC ?_)|wp_step)
 refine k7 (K.keeps up) hn F.init.lookup ?_;refine aa hi ?_;refine RA (QM ?_);refine QM (Xd ⟨_,up _ _ hfI,hfc⟩ ?_);refine aa (QR (by decide)) ?_;refine QV (QM (aG (hq _ (h.objs.size+1) ⟨up,Ru (RI _),h.objs.size,hget,Ru (Rl _),?_⟩) (λr s' hr=>?_)))
 ·exact QY _ (WD rfl rfl)
 ·obtain ⟨rfl,hQ⟩:=hr
  wp_walk;exact hQ
theorem FD{rest:List QS}{fI:Q5}{oI:Obj}{Q:QS->QT->Prop}(K:ExcAt h X)(hn:X.mN "__init__"=none)(hi:X.mD "__init__"=some (.ref fI))(hfI:h.get? fI=some oI)(hfc:oI.cls=.type "function")
  (hq:∀h' e,Z2 h h' e (.ref X.a) rest->wpAny (model prog w) (A.under (.builtin "type.__call__" ⟨.ref X.a::rest,[]⟩)) (call (.ref fI) (.ref e::rest)) (λr s'=>r=.none/\Q (.ref e) s') E ⟨h',g,d,t,os⟩) (hrest:rest.length<=TG):
  wpAny (model prog w) A (call (.ref X.a) rest) Q E ⟨h,g,d,t,os⟩:=by
 have hC:=K.obj;have f1:=tc_lookup;have f2:=tc_bind (.ref X.a);have hT:(⟨h,g,d,t,os⟩:QT).TypeIs (.ref X.a) "type":=⟨_,hC,rfl⟩;refine Xg (ZG ?_);refine (?_:wpAny _ _ (callAny (.ref X.a) _) _ _ _)
 repeat(any_goals (first|assumption|with_reducible refine RD hC ?_|wp_step))
 refine ⟨rfl,?_⟩;refine codeAny_call_builtin_at (Uk _ (by decide+kernel)) Z3 (Wt hC (Fm K hn hi hfI hfc (λh' e hm=>?_) hrest));exact hq h' e hm
end
section
variable{M:Ub}{prog:RU}{w:Sz}{A:Rg}{E:QS->QT->Prop}{h:Rn}{g:Array Z1}{d:Drawn}{t:Nat}{os:XR}
variable{X:gC}{x:Q5}{slx:Array (Option QS)}{mA:Str->Option QS}{vs:Array QS}{name:Str}{v:QS}
theorem Fz{nameV:QS}{o:Obj}{Q:Unit->QT->Prop}(hC:h.get? X.a=some X.ob)(hx:h.get? x=some o)(hc:o.cls=.ref X.a)(hq:Q () ⟨h,g,d,t,os⟩):
  wpAny M A (SJ "object.__setattr__" ⟨[.ref x,nameV,v],[]⟩) Q E ⟨h,g,d,t,os⟩:=by
 have SF:=Ua;have hcB:(RT X.a::.ref X.D::dv).contains (.type "object")=true:=by simp [dv]
 have ha:=SF.args (.ref x) nameV v;simp only [SJ,SF.kind,SF.split];refine QM ?_
 repeat(first|(with_reducible refine RD hx ?_;refine aa hc ?_)|(with_reducible refine Tu hC ?_;refine aa hcB ?_)|wp_step)
 exact hq
theorem Fq{tk:Tok}{o:Obj}{Q:Fin->QT->Prop}(K:ExcAt h X)(hn:X.mN name=none)(hnD:X.mD name=none)(hB:S6 (.type "Exception") name=pure none)
  (hx:h.get? x=some o) (hc:o.cls=.ref X.a) (hdn:o.dict=none) (hdat:o.data=.fields vs)
  (hq:∀h' dx tk',h.get? dx=none->h'.get? x=some {cls:=.ref X.a,dict:=some dx,data:=.fields vs,slots:=o.slots}->h'.Ns1 dx (λy=>if y=name then some v else none)->(∀b o,b≠x->h.get? b=some o->h'.get? b=some o)->
   Q (.done (.ret .none)) ⟨h',g,d,tk',os⟩):
  wpAny (model prog w) A (Builtin.«object.__setattr__» ⟨[.ref x,.str name tk,v],[]⟩) Q E ⟨h,g,d,t,os⟩:=by
 have hC:=K.obj;have hpass:=Ua.passes (.ref x)
 repeat(first|rewrite [refuse_eq]|(rewrite [Wg,Wg,hpass])|(with_reducible refine RD hx ?_;refine aa hc ?_)|with_reducible refine Xm hC ?_|(with_reducible refine k7 K hn hB ?_;refine aa hnD ?_)|wp_step)
 refine aa hdn ?_;have hx₁:(h.push {cls:=.type "dict",data:=.dict #[]}).get? x=some o:=QY _ hx;have hxs:=SP (Vi hx);refine aa (QP (by simp [typeHasDict])) (aa hdat ?_);refine QM (wpAny_alloc ?_);refine QM (wpAny_update hx₁ ?_);refine QV ?_
 have hgd:((h.push {cls:=.type "dict",data:=.dict #[]}).update x λo=>{cls:=o.cls,dict:=some h.objs.size,data:=o.data,slots:=o.slots}).get? h.objs.size
   =some {cls:=.type "dict",data:=.dict #[]}:=
  (X3 _ _ _ _ hxs.symm).trans (WD rfl rfl)
 have hnd:((h.push {cls:=.type "dict",data:=.dict #[]}).update x λo=>{cls:=o.cls,dict:=some h.objs.size,data:=o.data,slots:=o.slots}).Ns h.objs.size (λ_=>none):=
  ⟨_,#[],_,hgd,rfl,λe he=>absurd he (by simp),λ_=>rfl⟩
 refine QM (QV (QM (wpAny_nsSet1 (YS hnd) λh' hn' hs=>?_)));obtain ⟨oD,esD,epD,hoD,hdD,hcD⟩:=hn'.count (Zt name v ael);refine QM (WY hoD (by refine aa hdD ?_;exact Zj (QN hcD (by refine aa UH (aa Zz (aa VI ?_));lia))) ?_);wp_walk
 have hx':=by
  refine (hs.2 x hxs).trans (RR _ hx₁ ?_);have hfr:=(Heap.get?_some_iff.mp hx).2;obtain ⟨oc,od,odt,osl⟩:=o;obtain rfl:odt=.fields vs:=hdat
  rfl
 rw [hc,hdat] at hx';refine hq h' h.objs.size _ (Ru (Rl _)) hx' hn' λb ob hbx hb=>?_;exact (hs.2 b (SP (Vi hb))).trans ((X3 _ _ _ _ hbx).trans (QY _ hb))
theorem Fp{tk:Tok}{o:Obj}{dx:Q5}{ns:List Str}{Q:Fin->QT->Prop}(K:ExcAt h X)(hn:X.mN name=none)(hnD:X.mD name=none)(hB:S6 (.type "Exception") name=pure none)
  (hx:h.get? x=some o) (hc:o.cls=.ref X.a) (hdx:o.dict=some dx) (hdat:o.data=.fields vs) (hns:h.Ns1 dx mA) (hw:Within mA ns) (hsz:ns.length<=100)
  (hq:∀h' tk',h'.Ns1 dx (λy=>if y=name then some v else mA y)->Sr dx h h'->Q (.done (.ret .none)) ⟨h',g,d,tk',os⟩):
  wpAny (model prog w) A (Builtin.«object.__setattr__» ⟨[.ref x,.str name tk,v],[]⟩) Q E ⟨h,g,d,t,os⟩:=by
 have hC:=K.obj;have hpass:=Ua.passes (.ref x)
 repeat(first|rewrite [refuse_eq]|(rewrite [Wg,Wg,hpass])|(with_reducible refine RD hx ?_;refine aa hc ?_)|with_reducible refine Xm hC ?_|(with_reducible refine k7 K hn hB ?_;refine aa hnD ?_)|wp_step)
 refine aa hdx ?_;refine QV ?_;refine QM (QV (QM (wpAny_nsSet1 hns λh' hn' hs=>?_)));obtain ⟨oD,esD,epD,hoD,hdD,hcD⟩:=hn'.count (Zt name v hw);refine QM (WY hoD (by refine aa hdD ?_;exact Zj (QN hcD (by refine aa UH (aa VI ?_);lia))) ?_);wp_walk;exact hq h' _ hn' hs
theorem y9{o:Obj}{Q:Unit->QT->Prop}(K:ExcAt h X)(hs:X.mN "__setattr__"=none)(hsD:X.mD "__setattr__"=none)(hx:h.get? x=some o)(hc:o.cls=.ref X.a)
  (hq:wpAny (model prog w) A.in1 (Builtin.«object.__setattr__» ⟨[.ref x,.str name t,v],[]⟩) (λf s'=>f=.done (.ret .none)/\Q () s') E ⟨h,g,d,t+1,os⟩):
  wpAny (model prog w) A (WK (.ref x) name v) Q E ⟨h,g,d,t,os⟩:=by
 have hC:=K.obj;have SF:=Ua;have f3:=SF.slot.bind (.ref x)
 repeat(any_goals (first|assumption|(with_reducible refine RD hx ?_;refine aa hc ?_)|(with_reducible refine k7 K hs SF.slot.lookup ?_;refine aa hsD ?_)|wp_step))
 refine XC SF.slot.plain SF.entry (Fz hC hx hc (aG hq (λf s' hf=>?_)));obtain ⟨rfl,hQ⟩:=hf;exact QV (QV hQ)
end
section
variable{M:Ub}{prog:RU}{w:Sz}{A:Rg}{E:QS->QT->Prop}{h:Rn}{g:Array Z1}{d:Drawn}{t:Nat}{os:XR}
variable{X:gC}{x:Q5}{slx:Array (Option QS)}{mA:Str->Option QS}{vs:Array QS}{name:Str}{v:QS}
theorem FC{nameV:QS}{o:Obj}{Q:Unit->QT->Prop}(hC:h.get? X.a=some X.ob)(hx:h.get? x=some o)(hc:o.cls=.ref X.a)(hq:Q () ⟨h,g,d,t,os⟩):
  wpAny M A (SJ "BaseException.__getattribute__" ⟨[.ref x,nameV],[]⟩) Q E ⟨h,g,d,t,os⟩:=by
 have hk:builtinKind "BaseException.__getattribute__"=some .slot:=by decide+kernel
 have hsplit:splitId "BaseException.__getattribute__"=some ("BaseException","__getattribute__"):=by decide+kernel
 have hcB:(RT X.a::.ref X.D::dv).contains (.type "BaseException")=true:=by simp [dv]
 have ha:=PySem.F.args_bexc_ga (.ref x) nameV;simp only [SJ,hk,hsplit];refine QM ?_
 repeat(first|(with_reducible refine RD hx ?_;refine aa hc ?_)|(with_reducible refine Tu hC ?_;refine aa hcB ?_)|wp_step)
 exact hq
theorem Fy{tk:Tok}{o:Obj}{dx:Q5}{Q:Fin->QT->Prop}(K:ExcAt h X)(hn:X.mN name=none)(hnD:X.mD name=none)(hB:S6 (.type "Exception") name=pure none)
  (hx:h.get? x=some o) (hc:o.cls=.ref X.a) (hdx:o.dict=some dx) (hdat:o.data=.fields vs) (hns:h.Ns dx mA) (hv:mA name=some v) (hq:Q (.done (.ret v)) ⟨h,g,d,t,os⟩):
  wpAny (model prog w) A (Builtin.«object.__getattribute__» ⟨[.ref x,.str name tk],[]⟩) Q E ⟨h,g,d,t,os⟩:=by
 have hC:=K.obj
 repeat(first|(with_reducible refine RD hx ?_;refine aa hc ?_)|(with_reducible refine k7 K hn hB ?_;refine aa hnD ?_)|wp_step)
 refine aa hdat ?_;unfold instanceDict
 repeat(first|(with_reducible refine RD hx ?_;refine aa hc ?_)|with_reducible refine RD hC ?_|wp_step)
 refine aa hdx ?_
 repeat(first|(with_reducible refine wpAny_nsGet hns ?_;refine aa hv ?_)|wp_step)
 exact hq
theorem Fw{o:Obj}{dx:Q5}{fill:Bool}{Q:QS->QT->Prop}(K:ExcAt h X)(hn:X.mN name=none)(hnD:X.mD name=none)(hB:S6 (.type "Exception") name=pure none)
  (g1:X.mN "__getattribute__"=none) (g2:X.mD "__getattribute__"=none) (g3:X.mN "__getattr__"=none) (g4:X.mD "__getattr__"=none)
  (hx:h.get? x=some o) (hc:o.cls=.ref X.a) (hdx:o.dict=some dx) (hdat:o.data=.fields vs) (hns:h.Ns dx mA) (hv:mA name=some v) (hh:handedOut v=pure v) (hq:Q v ⟨h,g,d,t+1,os⟩):
  wpAny (model prog w) A (Yc (.ref x) name fill) Q E ⟨h,g,d,t,os⟩:=by
 have hC:=K.obj;have FB:=PySem.F.attrBase_Exception;have f3:=FB.ga.bind (.ref x);have hx0:(fill&&onTheHeap (VB "BaseException.__getattribute__"))=false:=by cases fill<;>rfl
 have hx2:(VB "BaseException.__getattribute__"==VB "object.__getattribute__")=false:=by decide+kernel
 have hx1:(onTheHeap (RT X.a)&&VB "BaseException.__getattribute__"==VB "object.__getattribute__")=false:=by refine aa hx2 ?_;rfl
 repeat(any_goals (first|assumption|(with_reducible refine RD hx ?_;refine aa hc ?_)|(with_reducible refine k7 K g1 FB.ga.lookup ?_;refine aa g2 ?_)|(with_reducible refine k7 K g3 FB.noGetattr ?_;refine aa g4 ?_)|wp_step))
 refine XC FB.ga.plain PySem.F.entry_bexc_ga (FC hC hx hc (Fy K hn hnD hB hx hc hdx hdat hns hv ?_));refine (?_:wpAny _ _ (handedOut v) _ _ _);refine aa hh ?_;exact QV hq
end
section
variable{M:Ub}{prog:RU}{w:Sz}{A:Rg}{E:QS->QT->Prop}{env:Env}
variable{X:gC}
theorem Fs{s:QT}{x:Sem QS}{Q:ZE->QT->Prop}(hh:A.handled=none)
  (h:wpAny M A x (λv s₁=>∃e o a0,v=.ref e/\s₁.heap.get? X.a=some X.ob/\
   s₁.heap.get? e=some o/\o.cls=.ref X.a/\o.data=.fields #[a0,.none,.none,.none,.bool false,.none]/\E (.ref e) s₁) E s):
  wpAny M A (raiseStmt env (some x) none) Q E s:=by
 have hcB:(RT X.a::.ref X.D::dv).contains (.type "BaseException")=true:=by simp [dv]
 refine QM (aG h (λv s₁ h₁=>?_));obtain ⟨e,o,a0,rfl,hC,he,hc,hd,hE⟩:=h₁;obtain ⟨hp,g,d,tk,os⟩:=s₁;obtain ⟨oc,od,odt,osl⟩:=o;obtain rfl:oc=.ref X.a:=hc;obtain rfl:odt=.fields #[a0,.none,.none,.none,.bool false,.none]:=hd
 repeat(first|with_reducible refine RD he ?_|with_reducible refine RD hC ?_|(with_reducible refine Tu hC ?_;refine aa hcB ?_)|wp_step)
 exact X4 hh hE
end
end
section
open _root_.PySem _root_.PySem.Calls PyProof.Rows
open scoped Classical
noncomputable abbrev qI(l:List Env):List Q5:=l.filterMap (·.frame)
section
variable{M:Ub}{B:Bs}{σ φ ψ η:Map}{s:QT}{A:Rg}{E:QS->QT->Prop}{x T L:Q5}{h':Rn}{l outer:List Env}{env fenv:Env}{oe ox oT:Obj}{vs ts:Array QS}
theorem CC(S:ag B σ ψ s):∀{l:List Env},eG ψ l->s.heap.FunFrames B.h l
 |[],_=>trivial
 |env::l,k=>by
  refine ao (k env (.head _)).2 λL m y=>?_;have z:=S.r y.2;refine Q7 z λo z=>?_;exact ⟨(k env (.head _)).1,⟨L,o,y.1,S.rel.out L _ ((bf (S.dm y.2)).trans y.2),z.1,λvs e=>ao z.2.2 λes ep w=>Vu (w.1.symm.trans e)⟩,CC S λe he=>k e (.tail _ he)⟩
theorem xJ(k:eG ψ l){b:Q5}(hb:b∈qI l):∃m,ψ b=some (.bo m):=(List.mem_filterMap.mp hb).elim λenv y=>ao (k env y.1).2 λL m z=>⟨m,(QK (z.1.symm.trans y.2):L=b)▸z.2⟩
theorem aW.frame{h:Rn}{b:Q5}{m:aK}(tk:ax h h')(c:B.aW h b (.bo m))(k:∀o,h.get? b=some o->∃sl,h'.get? b=some {o with slots:=sl}):B.aW h' b (.bo m):=c.elim λo y=>(k o y.1).elim λsl e=>ao y.2.2 λes ep z=>⟨_,e,.dict z.1,es,ep,z.1,z.2.1,z.2.2.mono tk⟩
theorem M3(S:ag B σ ψ s)(F:eG ψ l)(ex:ψ x=some (.raw ox))(same:∀b o,b≠x->b∉qI l->s.heap.get? b=some o->h'.get? b=some o)(slot:∀b o,b≠x->s.heap.get? b=some o->∃sl,h'.get? b=some {o with slots:=sl})
  (hx:h'.get? x=some oe) (cx:d0 oe) (nT:s.heap.get? T=none) (hT:h'.get? T=some oT) (cT:d0 oT):ag B σ ((ψ.put x (.raw oe)).put T (.raw oT)) {s with heap:=h'}/\ax s.heap h':=
 have R:=S.rel;have tk:=λb o e q=>slot b o (λg=>q ((S.r ex).obj (g▸e:s.heap.get? x=some o)).1) e;have fT:=S.fresh nT;have outx:=R.out x _ ((bf (S.dm ex)).trans ex);have nx:=S.dm ex
 ⟨⟨R.to (λb o e=>same b o (λg=>nomatch(g▸e).symm.trans outx) (λg=>(xJ F g).elim λm y=>nomatch e.symm.trans (R.out b _ ((bf (S.dm y)).trans y))) (R.base b o e)) tk λb c e=>
   if qT:b=T then .inr (by subst qT;exact ⟨QK (((bf fT.1).trans Map.a7).symm.trans e)▸hJ hT cT,(R.fresh nT).2⟩)
   else if qx:b=x then .inr (by subst qx;exact ⟨QK (((bf nx).trans ((Map.aO qT).trans Map.a7)).symm.trans e)▸hJ hx cx,outx⟩)
   else have e':=fX e bh λn g=>(bf n).trans ((Map.aO qx).symm.trans ((Map.aO qT).symm.trans g))
    if qf:b∈qI l then(xJ F qf).elim λm y=>have g:=(bf (S.dm y)).trans y;.inr ⟨QK (g.symm.trans e')▸aW.frame tk (R.cell b _ g) λo=>slot b o qx,R.out b _ g⟩
    else .inl ⟨e',λo=>same b o qx qf⟩,
  λb q=>if qT:b=T then qT▸fT.1 else if qx:b=x then qx▸nx else S.cA b (((Map.aO qT).trans (Map.aO qx):((ψ.put x (.raw oe)).put T (.raw oT)) b=ψ b)▸q)⟩,tk⟩
end
theorem J9{o:Obj}{vs:Array QS}(hd:o.data=.fields vs) f:o.mapFields f={o with data:=.fields (f vs)}:=by
 obtain ⟨c,d,dt,sl⟩:=o;obtain rfl:dt=.fields vs:=hd
 rfl
section
variable{M:Ub}{B:Bs}{σ φ η:Map}{s:QT}{A:Rg}{E:QS->QT->Prop}{x L:Q5}{outer:List Env}{env fenv:Env}{oe:Obj}{vs:Array QS}{p q:QI}{ph:Option QS->Prop}{h₀:Rn}
theorem Ng{head:QS}{hadNext:Bool}{Q:Unit->QT->Prop}(hfr:A.frames=some (fenv::outer))(hl:s.heap.FunFrames B.h (fenv::outer))(hene:x∉qI (fenv::outer))(hf:fenv.frame=some L)(hf':env.frame=some L)(he:s.heap.get? x=some oe)(hd:oe.data=.fields vs)(hsz:1<vs.size)
  (h:∀h' T oT ts,(∀b o,b≠x->b∉qI (fenv::outer)->s.heap.get? b=some o->h'.get? b=some o)->(∀b o,b≠x->s.heap.get? b=some o->∃sl,h'.get? b=some {o with slots:=sl})->s.heap.get? T=none->
   h'.get? x=some {oe with data:=.fields (vs.setIfInBounds 1 (.ref T))}->h'.get? T=some oT->oT.data=.fields ts->ts[3]?=some (UA L)->Q () {s with heap:=h'}):
  wpAny M A (do let a←frameOf env;let pl←entryPlaceOf L hadNext;let b←X5 head a .none (UA L) .none pl;setField (.ref x) 1 b) Q E s:=by
 refine aa (show frameOf env=frameOf fenv by unfold frameOf;rw [hf,hf']) ?_;refine QM (wpAny_frameOf_fun hfr hl hf λh₁ hs₁=>QM (wpAny_entryPlaceOf λpl hpl=>?_));refine QM (Sg ?_ (hpl.sizeOk5 _ _ _ _ _));have he₁:=(hs₁.2.1 x hene).trans he;have i3:([head,RT L,.none,UA L,.none]++(if pl.isEmpty then Q4 6 Tq else pl)).toArray[3]?=some (UA L):=rfl;generalize ([head,RT L,.none,UA L,.none]++(if pl.isEmpty then Q4 6 Tq else pl)).toArray=ts at i3⊢;have he₂:=QY {cls:=.type "traceback",dict:=none,data:=.fields ts} he₁;have hTe:=SP (Vi he₁)
 refine Wh he₂ hd hsz (h _ h₁.objs.size _ ts (λb o n nf e=>(Ul _ _ (UG n)).trans (QY _ ((hs₁.2.1 b nf).trans e))) (λb o n e=>(hs₁.2.2 b o e).imp λsl e=>(Ul _ _ (UG n)).trans (QY _ e))
  (Ru (R4 hs₁.1.symm)) ((RR (Yd (·.setIfInBounds 1 (RT h₁.objs.size))) he₂ (Vs (TJ hd _))).trans (QQ some (J9 hd _))) ((Ul _ _ hTe).trans (RS h₁ rfl)) rfl i3)
def eI(B:Bs)(σ φ:Map)(p q:QI)(x:Q5)(ph:Option QS->Prop)(h₀:Rn)(s:QT):Prop:=∃η,jH B.e.a η x p q ph/\ag B σ (φ.join η) s/\(∀a,η a≠none->φ a=none)/\ax h₀ s.heap
theorem vO{a b:Q5}{o:Obj}{l:aK}(x:η a=some (.raw o))(y:η b=some (.aF l)):b≠a:=λe=>nomatch(e▸y).symm.trans x
theorem Dh{head:QS}{hadNext:Bool}{dx:Q5}{l:aK}(hfr:A.frames=some (fenv::outer))(F:eG φ (fenv::outer))(hf:fenv.frame=some L)(hf':env.frame=some L)(S:ag B σ (φ.join η) s)(sep:∀a,η a≠none->φ a=none)(tk:ax h₀ s.heap)
  (e1:η x=some (.raw oe)) (e2:oe.cls=.ref B.e.a) (e3:oe.dict=some dx) (e4:oe.data=.fields vs) (e5:1<vs.size) (e6:η dx=some (.aF l)) (e7:l.lookup "code"=some (.d p)) (e8:l.lookup "at"=some (.d q)):
  wpAny M A (do let a←frameOf env;let pl←entryPlaceOf L hadNext;let b←X5 head a .none (UA L) .none pl;setField (.ref x) 1 b) (λ_ s'=>eI B σ φ p q x (yz env) h₀ s') E s:=
 have nx:=sep x (e1▸Q1 _);have px:=(bf nx).trans e1;have F':=F.more λ_ _ e=>bh e;have g:=(S.r px).elim λo y=>y.2.2▸y.1
 Ng hfr (CC S F') (λm=>(xJ F' m).elim λ_ y=>nomatch y.symm.trans px) hf hf' g e4 e5 λh' T oT ts same slot nT hx hT dT i3=>
  have K:=M3 S F' px same slot hx (eV rfl) nT hT (eV dT);have fT:=S.fresh nT;have nT':=Q9.mpr λc e=>nomatch(bh e).symm.trans fT.2;have ηT:=(bf nT').symm.trans fT.2;have xT:x≠T:=λe=>nomatch(e▸e1).symm.trans ηT
  ⟨(η.put x (.raw {oe with data:=.fields (vs.setIfInBounds 1 (.ref T))})).put T (.raw oT),⟨⟨_,_,dx,.ref T,l,(Map.aO xT).trans Map.a7,e2,e3,rfl,Uy e5,.inr ⟨T,oT,ts,_,rfl,xT.symm,Map.a7,dT,i3,L,hf',rfl⟩,(Map.aO λe=>nomatch(e▸e6).symm.trans ηT).trans ((Map.aO (vO e1 e6)).trans e6),e7,e8⟩⟩,
   (qu nT'▸qu nx▸K.1:),λb h=>if e:b=T then e▸nT' else if e':b=x then e'▸nx else sep b λz=>h (((Map.aO e).trans (Map.aO e')).trans z),tk.trans K.2⟩
end
section
variable{M:Ub}{B:Bs}{σ φ η:Map}{s:QT}{A:Rg}{E:QS->QT->Prop}{x T L:Q5}{outer:List Env}{env fenv:Env}{oT:Obj}{ts:Array QS}{p q:QI}{ph:Option QS->Prop}{h₀:Rn}{v:QS}
theorem lC{o:Obj}(S:ag B σ (φ.join η) s)(sep:∀a,η a≠none->φ a=none)(e:η x=some (.raw o)):s.heap.get? x=some o:=(S.r ((bf (sep x (e▸Q1 _))).trans e)).elim λo' y=>y.2.2▸y.1
theorem zM(S:ag B σ (φ.join η) s)(sep:∀a,η a≠none->φ a=none)(tk:ax h₀ s.heap)(eT:η T=some (.raw oT))(d:oT.data=.fields ts)(n:3<ts.size){G:Unit->QT->Prop}
  (k:∀s' oT',oT'.data=.fields (ts.setIfInBounds 3 v)->ag B σ (φ.join (η.put T (.raw oT'))) s'->ax h₀ s'.heap->(∀a,(η.put T (.raw oT')) a≠none->φ a=none)->G () s'):wpAny M A (setField (.ref T) 3 v) G E s:=
 have nT:=sep T (eT▸Q1 _);have pT:=(bf nT).trans eT;have g:=lC S sep eT;have self:=RR (Yd (·.setIfInBounds 3 v)) g (Vs (TJ d _))
 Wh g d n (k {s with heap:=s.heap.update T (Yd (·.setIfInBounds 3 v))} _ (TJ d _) (qu nT▸S.jb pT (RW ..) λ_=>hJ self (eV (TJ d _))) (tk.trans (S.k8 pT (RW ..))) λb h=>if e:b=T then e▸nT else sep b λz=>h ((Map.aO e).trans z))
theorem wA(hfr:A.frames=some (fenv::outer))(F:eG φ (fenv::outer))(hf:fenv.frame=some L)(hf':env.frame=some L)(D:eI B σ φ p q x (atAny env) h₀ s):wpAny M A (noteFrame (.ref x) env) (λ_ s'=>eI B σ φ p q x (yz env) h₀ s') E s:=
 Q7 D λη D=>cm D.1.it λoe vs dx tb l f=>by
  have S:=D.2.1;have sep:=D.2.2.1;have tk:=D.2.2.2;have lt1:=(TK.mp f.2.2.2.2.1).1;unfold noteFrame;simp only [hf'];refine QM (Tl (lC S sep f.1) f.2.2.2.1 f.2.2.2.2.1 (f.2.2.2.2.2.1.elim (λb=>?_) λb=>jt b λT oT ts fl b=>?_))
  ·refine aa b.1 (aa (QP (by decide)) ?_)
   exact Dh hfr F hf hf' S sep tk f.1 f.2.1 f.2.2.1 f.2.2.2.1 lt1 f.2.2.2.2.2.2.1 f.2.2.2.2.2.2.2.1 f.2.2.2.2.2.2.2.2
  ·refine aa b.1 (aa (QR (show(RT T !=Tq)=true from bne_iff_ne.mpr nofun)) ?_)
   refine QM (Tl (lC S sep b.2.2.1) b.2.2.2.1 b.2.2.2.2.1 ?_);refine b.2.2.2.2.2.elim nofun λph=>ph.elim (λph=>?_) λph=>ph.elim λL' ph=>?_
   ·refine aa (QK ph) (aa (QP (show¬((Tq==UA L)=true) fromλe=>nomatch Q6.mp e)) ?_)
    refine QM (zM S sep tk b.2.2.1 b.2.2.2.1 (TK.mp b.2.2.2.2.1).1 λs' oT' d S' tk' sep'=>?_);exact Dh hfr F hf hf' S' sep' tk' ((Map.aO b.2.1.symm).trans f.1) f.2.1 f.2.2.1 f.2.2.2.1 lt1 ((Map.aO (vO b.2.2.1 f.2.2.2.2.2.2.1)).trans f.2.2.2.2.2.2.1) f.2.2.2.2.2.2.2.1 f.2.2.2.2.2.2.2.2
   ·have eL:=QK (ph.1.symm.trans hf')
    refine aa (QK ph.2) (aa eL (aa (QR (beq_self_eq_true _)) ?_));exact QV ⟨η,⟨oe,vs,dx,tb,l,f.1,f.2.1,f.2.2.1,f.2.2.2.1,f.2.2.2.2.1,.inr ⟨T,oT,ts,fl,b.1,b.2.1,b.2.2.1,b.2.2.2.1,b.2.2.2.2.1,L',ph⟩,f.2.2.2.2.2.2⟩,S,sep,tk⟩
theorem FV{G:QS->QT->Prop}(nt:¬ph none)(D:eI B σ φ p q x ph h₀ s)(h:∀T,G (.ref T) s):wpAny M A (field (.ref x) 1) G E s:=Q7 D λη D=>cm D.1.it λoe vs dx tb l f=>Tl (lC D.2.1 D.2.2.1 f.1) f.2.2.2.1 f.2.2.2.2.1 (f.2.2.2.2.2.1.elim (λb=>absurd b.2 nt) λb=>jt b λT oT ts fl b=>b.1▸h T)
theorem ue{fl:Option Q5}(nt:¬ph none)(D:eI B σ φ p q x ph h₀ s):wpAny M A (setFlight (.ref x) fl) (λ_ s'=>eI B σ φ p q x (λo=>o=some (fl.elim Tq λf=>UA f)) h₀ s') E s:=
 Q7 D λη D=>cm D.1.it λoe vs dx tb l f=>f.2.2.2.2.2.1.elim (λb=>absurd b.2 nt) λb=>jt b λT oT ts fl' b=>by
  refine QM (Tl (lC D.2.1 D.2.2.1 f.1) f.2.2.2.1 f.2.2.2.2.1 ?_);have n3:=(TK.mp b.2.2.2.2.1).1;refine aa b.1 (aa (QR (show(RT T !=Tq)=true from bne_iff_ne.mpr nofun)) ?_);exact zM D.2.1 D.2.2.1 D.2.2.2 b.2.2.1 b.2.2.2.1 n3 λs' oT' d S' tk' sep'=>⟨_,⟨oe,vs,dx,tb,l,(Map.aO b.2.1.symm).trans f.1,f.2.1,f.2.2.1,f.2.2.2.1,f.2.2.2.2.1,.inr ⟨T,oT',_,_,b.1,b.2.1,Map.a7,d,Uy n3,rfl⟩,(Map.aO (vO b.2.2.1 f.2.2.2.2.2.2.1)).trans f.2.2.2.2.2.2.1,f.2.2.2.2.2.2.2⟩,S',sep',tk'⟩
end
theorem yY{α:Type}:∀{ns:List Str}{vs:List α},vs.length=ns.length->∀n∈ns,((ns.zip vs).lookup n).isNone=false
 |m::ns,v::vs,hl,n,hn=>by
  refine aa U2 (aa Rx ?_);generalize hb:(n==m)=b
  cases b with
  |true=>rfl
  |false=>exact (QZ.mp hn).elim (λe=>nomatch hb.symm.trans (Q6.mpr e)) λhn=>yY (Xf hl) n hn
theorem yZ{α:Type}:∀{ns:List Str}{vs:List α} l,ns.Nodup->vs.length=ns.length->(∀n∈ns,l.lookup n=none)->(ns.filterMap λn=>((l++ns.zip vs).lookup n).map λv=>(n,v))=ns.zip vs
 |[],_,l,_,_,_=>by exact aa List.filterMap_nil (aa YT rfl)
 |n::ns,v::vs,l,nd,hl,hn=>by
  have h:=Tp.mp nd;have ih:=yZ (l++[(n,v)]) h.2 (Xf hl) λm hm=>by refine aa Yt (aa (hn m (.tail _ hm)) (aa Rx (aa (Q3.mpr λe:m=n=>h.1 (e▸hm)) ?_)));rfl
  rw [Sh] at ih;refine aa U2 (aa X1 (aa Yt (aa (hn n (.head _)) (aa Vr ?_))));exact QQ (XU (n,v)) ih
theorem yq{fd:UR}{ns:List Str}{vals:List QS}(h1:fd.params.posonlyargs=[])(h2:fd.params.vararg=none)(h3:fd.params.kwonlyargs=[])(h4:fd.params.kwarg=none)(h5:fd.params.args.map (·.arg)=ns)(nd:ns.Nodup)(hl:vals.length=ns.length)(hd:fd.defaults=.none):
  YI fd ⟨vals,[]⟩=pure (ns.zip vals):=by
 obtain ⟨nm,qn,⟨po,ar,va,ko,kd,kwa,dfs⟩,body,sc,gl,cl,df,kwd,doc,pm,an,cd,ct,bl⟩:=fd;obtain rfl:po=[]:=h1;obtain rfl:va=none:=h2;obtain rfl:ko=[]:=h3;obtain rfl:kwa=none:=h4;obtain rfl:ar.map (·.arg)=ns:=h5;obtain rfl:df=.none:=hd;refine (QP (λh=>absurd (Q0 (ae h).1) (Nat.not_lt.mpr (R4 hl)))).trans ?_;rewrite [show∀k,List.drop k (none.getD #[]).toList=[] fromλ_=>List.drop_nil];refine (QP (show¬(!(List.filter (λn=>(((ar.map (·.arg)).zip vals).lookup n).isNone) ((ar.map (·.arg)).take (ar.map (·.arg)).length)).isEmpty)=true from ?_)).trans ?_
 ·refine aa List.take_length (aa (List.filter_eq_nil_iff.mpr λn m=>by rw [yY hl n m];exact SD) ?_)
  exact SD
 ·refine aa List.zip_nil_right ?_
  refine (?_:(pure (List.filterMap (λn=>(((ar.map (·.arg)).zip vals).lookup n).map λv=>(n,v)) (ar.map (·.arg)++[])):Sem _)=_);rewrite [SI];exact QQ pure (yZ [] nd hl λ_ _=>rfl)
section
variable{p:Str->Prop}{g:List (Str×QS)->(Str->Option QS)->Str->Option QS}
theorem xP(hn:∀m,g [] m=m)(hp:∀n v r m,p n->g ((n,v)::r) m=g r λy=>if y=n then some v else m y)(hq:∀n v r m,¬p n->g ((n,v)::r) m=g r m){n:Str}:∀{l:List (Str×QS)}{m:Str->Option QS},n∉l.map (·.1)->g l m n=m n
 |[],m,_=>by(rewrite [hn];rfl)
 |(y,v)::r,m,h=>if e:p y then(hp y v r m e▸(xP hn hp hq λq=>h (.tail _ q)).trans (QP λq:n=y=>h (q▸.head _)):) else hq y v r m e▸xP hn hp hq λq=>h (.tail _ q)
theorem t9(hn:∀m,g [] m=m)(hp:∀n v r m,p n->g ((n,v)::r) m=g r λy=>if y=n then some v else m y)(hq:∀n v r m,¬p n->g ((n,v)::r) m=g r m){n:Str}{u:QS}(k:p n):∀{l:List (Str×QS)}{m:Str->Option QS},(l.map (·.1)).Nodup->(n,u)∈l->g l m n=some u
 |(y,v)::r,m,nd,h=>have nd:=Tp.mp nd
  (QZ.mp h).elim (λe=>by obtain ⟨rfl,rfl⟩:=Tx e;refine aa (hp _ _ _ _ k) (aa (xP hn hp hq nd.1) ?_);exact QR rfl) λh=>if e:p y then hp y v r m e▸t9 hn hp hq k nd.2 h else hq y v r m e▸t9 hn hp hq k nd.2 h
end
theorem O2{k:Str->Option WZ}{l:List (Str×QS)}{m:Str->Option QS}{n:Str}{u:QS}(nd:(l.map (·.1)).Nodup)(h:(n,u)∈l)(e:k n=some .local):bindL k l m n=some u:=t9 (λ_=>rfl) (λn v r m e=>QQ (bindL k r) (QR e)) (λn v r m e=>QQ (bindL k r) (QP e)) e nd h
theorem O3{k:Str->Option WZ}{l:List (Str×QS)}{m:Str->Option QS}{n:Str}{u:QS}(nd:(l.map (·.1)).Nodup)(h:(n,u)∈l)(e:k n≠some .local):bindC k l m n=some u:=t9 (g:=bindC k) (λ_=>rfl) (λn v r m e=>QQ (bindC k r) (QP e)) (λn v r m e=>QQ (bindC k r) (QR (Classical.not_not.mp e))) e nd h
theorem mu{n:Str}:∀{names:List (Str×WZ)}{k:Nat}{acc:List (Str×Q5)},names.lookup n=some .cell\/(∃c,acc.lookup n=some c)->∃c,(XY k names acc).lookup n=some c
 |[],_,_,h=>h.elim (λe=>aX e) id
 |(y,kd)::r,k,acc,h=>by
  rw [Rx] at h;refine (?_:∃c,(if kd==.cell then XY (k+1) r ((y,k)::acc) else XY k r acc).lookup n=some c);generalize hb:(n==y)=b at h;by_cases e:kd=.cell
  ·refine aa (QR (Q6.mpr e)) ?_
   refine mu ?_;refine aa Rx (aa hb ?_)
   cases b with
   |true=>exact .inr ⟨k,rfl⟩
   |false=>exact h
  ·refine aa (QP λq=>e (Q6.mp q)) ?_
   refine mu ?_
   cases b with
   |true=>exact .inr (h.elim (λq=>absurd (QK q) e) id)
   |false=>exact h
theorem mem_lookup{α:Type}{n:Str}{a:α}:∀{l:List (Str×α)},l.lookup n=some a->(n,a)∈l
 |(m,v)::r,h=>by
  rw [Rx] at h;generalize hb:(n==m)=b at h
  cases b with
  |true=>exact Q6.mp hb▸QK h▸.head _
  |false=>exact .tail _ (mem_lookup h)
theorem AD{n m:Str}{a:Q5}:∀{l:List (Str×Q5)},l.Pairwise (λx y=>x.2≠y.2)->(n,a)∈l->(m,a)∈l->n=m
 |p::r,h,x,y=>have h:=List.pairwise_cons.mp h;(QZ.mp x).elim (λe=>(QZ.mp y).elim (λe'=>QQ acG (e.trans e'.symm)) λy=>absurd (QQ Z5 e.symm) (h.1 (m,a) y)) λx=>(QZ.mp y).elim (λe'=>absurd (QQ Z5 e'.symm) (h.1 (n,a) x)) λy=>AD h.2 x y
theorem yX{R:V->QS->Prop}{x:String}{v:V}:∀{ps:List String}{vs:List V}{us:List QS},ai R vs us->(x,v)∈ps.zip vs->x∈ps/\∃u,(QJ x,u)∈(ps.map QJ).zip us/\R v u
 |[],vs,us,_,h=>nomatch(YT▸h:(x,v)∈([]:List (String×V)))
 |p::ps,vs,us,r,h=>by
  cases r with
  |nil=>exact nomatch h
  |cons r t=>
   rw [U2] at h;exact (QZ.mp h).elim (λe=>by obtain ⟨rfl,rfl⟩:=Tx e;exact ⟨.head _,_,.head _,r⟩) λh=>(yX t h).imp (.tail _) λy=>y.imp λu y=>⟨.tail _ y.1,y.2⟩
theorem wM{ps:List String}(h:ps.Nodup):(ps.map QJ).Nodup:=afh _ (λ_ _ n e=>n (lH e)) h
theorem vB{x:String}{v:V}:∀{l:aK},l.lookup x=some v->(x,v)∈l
 |(m,w)::r,h=>by
  rw [Rx] at h;generalize hb:(x==m)=b at h
  cases b with
  |true=>exact Q6.mp hb▸QK h▸.head _
  |false=>exact .tail _ (vB h)
section
variable{B:Bs}{σ φ φ':Map}{s:QT}{h':Rn}{tk:Nat}
theorem ag.frame(S:ag B σ φ s)(k:∀a o,s.heap.get? a=some o->h'.get? a=some o)(w:∀a c,φ' a=some c->φ a=some c\/(s.heap.get? a=none/\B.aW h' a c)):ag B σ φ' {s with heap:=h',toks:=tk}:=
 ⟨S.rel.to (λb o e=>k b o (S.rel.base b o e)) (.of k) λb c e=>fX e (λl=>.inl ⟨bh l,k b⟩) λn r=>(w b c r).elim (λr=>.inl ⟨(bf n).trans r,k b⟩) λr=>.inr ⟨r.2,(S.rel.fresh r.1).2⟩,
  λb q=>(Rw.mp q).elim λc e=>(w b c e).elim (λr=>S.cA b (r▸Q1 c)) λr=>(S.fresh r.1).1⟩
noncomputable def xu(sc:RE)(x:String):Bool:=sc.names.lookup (QJ x)==some .local
noncomputable def valOf(ρ:aK)(n:Str):Option V:=(ρ.find? λp=>QJ p.1==n).map (·.2)
noncomputable def qZ(env:Env)(ρ:aK)(n:Str):Option V:=if env.kindOf n=some .cell then valOf ρ n else none
def n7(φ:Map)(env:Env)(ρ:aK):Map:=λb=>if b=env.locals then some (.bo (ρ.filter λp=>xu env.scope p.1)) else if∃n,env.cells.lookup n=some b then some (.bj (qZ env ρ (Classical.epsilon λn=>env.cells.lookup n=some b))) else φ b
theorem EU{ρ:aK}{x:String}:valOf ρ (QJ x)=ρ.lookup x:=ρ.rec rfl λp t ih=>by
 refine (?_:(List.find? _ (p::t)).map (·.2)=_);refine aa (Xl) (aa Rx ?_);by_cases e:p.1=x
 ·(refine aa e ?_;rewrite [beq_self_eq_true,beq_self_eq_true]);rfl
 ·refine aa (Q3.mpr λq=>e (lH q)) (aa (Q3.mpr (UG e)) ?_);exact ih
theorem Ku{q:String->Bool}{ρ:aK}{x:String}(h:q x=true):(ρ.filter λp=>q p.1).lookup x=ρ.lookup x:=ρ.rec rfl λp t ih=>by
 refine aa Rx ?_;by_cases e:x=p.1
 ·exact aa (W0 (e▸h)) (aa Rx (aa (Q6.mpr e) rfl))
 ·refine aa (Q3.mpr e) ?_
  by_cases g:q p.1=true
  ·refine aa (W0 (p:=λp:String×V=>q p.1) g) (aa Rx (aa (Q3.mpr e) ?_));exact ih
  ·refine aa (List.filter_cons_of_neg (p:=λp:String×V=>q p.1) g) ?_;exact ih
theorem EV{ρ:aK}{n:Str}{v:V}(h:valOf ρ n=some v):∃x,(x,v)∈ρ/\QJ x=n:=(RH.mp h).elim λp y=>⟨p.1,y.2▸List.mem_of_find?_eq_some y.1,Q6.mp (List.find?_some (p:=λp:String×V=>QJ p.1==n) y.1)⟩
theorem v9{fn:Fn}{a:Arguments}{body:List So}{sc:RE}(h:ub fn a body sc=true):(a.posonlyargs=[]/\a.vararg=none/\a.kwonlyargs=[]/\a.kwarg=none/\a.args.map (·.arg)=fn.params.map QJ)/\sc.kind=.function/\sc.isCoroutine=false/\sc.isGenerator=false/\(∀x∈fn.params,fY sc (QJ x)=true)/\wJ fn.body sc body=true:=
 have a:=ae h;have b:=ae a.1;have c1:=ae b.1;have c2:=ae c1.1;have c3:=ae c2.1;have c4:=ae c3.1;have c5:=ae c4.1;have c6:=ae c5.1;have c7:=ae c6.1;have e1:=ae b.2;have e2:=ae e1.1;have e3:=ae e2.1;have e4:=ae e3.1
 ⟨⟨Tz.mp c7.1,Rz.mp c7.2,Tz.mp c6.2,Rz.mp c4.2,eq_of_beq c2.2⟩,eq_of_beq e4.1,Um (y:=false) e4.2,Um (y:=false) e3.2,Rp.mp e2.2,a.2⟩
end
theorem LU{sc:RE}{n:Str}(h:nS sc n=true):sc.names.lookup n=some .globalImplicit:=by
 unfold nS at h;generalize sc.names.lookup n=r at h⊢
 cases r with
 |none=>exact ff h
 |some k=>cases k<;>first|rfl|exact ff h
theorem rX{sc:RE}{n:Str}(h:fY sc n=true):sc.names.lookup n=some .local\/sc.names.lookup n=some .cell:=by
 have h:=(ae h).2;generalize sc.names.lookup n=r at h⊢
 cases r with
 |none=>exact ff h
 |some k=>cases k<;>first|exact .inl rfl|exact .inr rfl|exact ff h
noncomputable def Cx.fn(B:Bs)(n:Nat)(ρ:aK)(X:QI->QI->Map->Prop):Cx:=⟨B,n,false,ρ,none,[],X⟩
noncomputable def bK.fn(Q:V->Map->Prop):bK:=⟨λ_ σ=>Q (.d .none) σ,Q,λ_ _=>False⟩
section
variable{B:Bs}{σ φ:Map}{s s₁:QT}{A:Rg}{n:Nat}{fn:Fn}{a:Q5}{fd:UR}{body:List So}{vs:List V}{us:List QS}{l:List Env}{X:QI->QI->Map->Prop}
theorem CL{env:Env}(e1:env.scope=fd.scope)(e2:env.locals=s.heap.objs.size)(e3:env.globals=R8)(e4:env.builtins=T1)(e5:env.cells=XY (s.heap.objs.size+1) fd.scope.names [])(e6:env.frame=some env.locals)
  (F:ub fn fd.params body fd.scope=true) (nd:fn.params.Nodup) (hfr:A.frames=some l) (hl:eG φ l) (dep:A.depth+4*(n+1)+6<TF) (fy:A.units+60*(n+1)+350<cLine) (hh:A.handled=none) (S:ag B σ φ s) (r:ai (ak s.heap) vs us) (ln:us.length=fn.params.length)
  (ic:InCallC s env.locals (bindL env.kindOf ((fn.params.map QJ).zip us) λ_=>none) env.cells (bindC env.kindOf ((fn.params.map QJ).zip us) λ_=>none) s₁):
  ∃φ',Fr (.fn B n (fn.params.zip vs) X) (A.deeper env) env fd.scope φ φ'/\ag B σ φ' s₁/\ax s.heap s₁.heap:=by
 have f:=v9 F;refine ao ic.toInCall.same λh₁ tk e=>?_;have ns:=ic.toInCall.ns;have kp:=ic.toInCall.keep;have cl:=ic.cell;have ab:=ic.above;have ap:=ic.apart;subst e;have tk0:ax s.heap h₁:=.of kp;have ek:∀n,env.kindOf n=fd.scope.names.lookup n:=λn=>QQ (λs:RE=>s.names.lookup n) e1;have fL:=Ru (R4 e2.symm);have fC:∀{n c},env.cells.lookup n=some c->s.heap.get? c=none:=λh=>Ru (VY (e2▸ab _ _ (mem_lookup h)));have nC:∀{n c},env.cells.lookup n=some c->c≠env.locals:=λh=>abE (ab _ _ (mem_lookup h));have inj:∀n m a,env.cells.lookup n=some a->env.cells.lookup m=some a->n=m:=λn m a h g=>AD ap (mem_lookup h) (mem_lookup g);have keys:(((fn.params.map QJ).zip us).map (·.1)).Nodup:=by refine aa (List.map_fst_zip (R4 ((QX _).trans ln.symm))) ?_;exact wM nd
 have mL:n7 φ env (fn.params.zip vs) env.locals=some (.bo ((fn.params.zip vs).filter λp=>xu env.scope p.1)):=QR rfl
 have mC:∀{n c},env.cells.lookup n=some c->n7 φ env (fn.params.zip vs) c=some (.bj (qZ env (fn.params.zip vs) n)):=λ{n c} h=>
  (QP (nC h)).trans ((QR ⟨n,h⟩).trans (QQ (λn=>some (Cell.bj (qZ env (fn.params.zip vs) n))) (inj _ _ c (Classical.epsilon_spec (p:=λn=>env.cells.lookup n=some c) ⟨n,h⟩) h)))
 have sub:Sub φ (n7 φ env (fn.params.zip vs)):=λb d e=>(QP λq=>nomatch(q▸e).symm.trans (S.fresh fL).2).trans ((QP λq=>q.elim λn h=>nomatch e.symm.trans (S.fresh (fC h)).2).trans e);have val:∀{x v},(x,v)∈fn.params.zip vs->x∈fn.params/\∃u,(QJ x,u)∈(fn.params.map QJ).zip us/\ak s.heap v u:=λh=>yX r h
 have St:ag B σ (n7 φ env (fn.params.zip vs)) {s with heap:=h₁,toks:=tk}:=S.frame kp λb c e=>
  if qL:b=env.locals then .inr ⟨qL▸fL,by
   subst qL;refine QK (mL.symm.trans e)▸Ns.cell ns λx v h=>?_;have m:=List.mem_filter.mp (vB h);exact (val m.1).2.imp λu y=>⟨O2 keys y.1 ((ek _).trans (Q6.mp (e1▸m.2))),y.2.mono tk0⟩⟩
  else if qC:∃n,env.cells.lookup n=some b then qC.elim λn h=>.inr ⟨fC h,QK ((mC h).symm.trans e)▸IsCell.cell (cl n b h) λv g=>by
   by_cases k:env.kindOf n=some .cell
   ·rw [qZ,QR k] at g
    exact (EV g).elim λx y=>(val y.1).2.imp λu z=>⟨O3 keys (y.2▸z.1) λq=>(nomatch k.symm.trans q),z.2.mono tk0⟩
   ·rw [qZ,QP k] at g
    exact aX g⟩
  else .inl (((QP qL).trans (QP qC):n7 φ env (fn.params.zip vs) b=φ b).symm.trans e)
 have kf:=e1.symm▸f.2.1;have FR:eG (n7 φ env (fn.params.zip vs)) (env::l):=λe m=>(QZ.mp m).elim (λg=>by subst g;exact ⟨λq=>(nomatch q.symm.trans kf),_,_,e6,mL⟩) λm=>hl.more sub e m
 refine ⟨_,⟨⟨⟨env,l,by refine (?_:A.frames.map _=_);refine aa hfr ?_;rfl,rfl,FR⟩,?_,?_,.inl hh,kf,e3,e4,λn h=>(ek n).trans (LU h),λn h=>⟨(ek n).trans h,e5▸mu (.inl h)⟩,λx v _ h=>?_,nofun⟩,
  λn h=>⟨ek n,(rX h).imp (λq=>(ek n).trans q) λq=>⟨(ek n).trans q,e5▸mu (.inl q)⟩⟩,⟨_,mL⟩,e6,λn a h=>⟨⟨_,mC h⟩,(S.fresh (fC h)).2⟩,inj,sub,(S.fresh fL).2,nofun,rfl⟩,St,tk0⟩
 ·refine (?_:A.depth+1+4*n+8<TF);lia
 ·refine (?_:A.units+3+60*n+380<cLine);lia
 ·have m:=val (vB h)
  exact (rX (f.2.2.2.2.1 x m.1)).imp (λk=>⟨(ek _).trans k,_,mL,(Ku (q:=xu env.scope) (Q6.mpr ((ek _).trans k:))).trans h⟩) λk=>⟨.inl ((ek _).trans k),(mu (.inl k)).imp λc hc=>⟨e5▸hc,(mC (e5▸hc)).trans (QQ (λv=>some (Cell.bj v)) ((QR ((ek _).trans k)).trans (EU.trans h)))⟩⟩
end
section
variable{B:Bs}{σ φ φ':Map}{s:QT}{A:Rg}{n:Nat}{gn:Fn}{f:String}{vs:List V}{X:QI->QI->Map->Prop}{Q:V->Map->Prop}{h₀:Rn}
theorem CI{c:Cx}{env:Env}{sc:RE}{fl:ZE}(x:bG c A env sc φ h₀ (.fn Q) fl s):aA c.B φ h₀ Q (fl.casesOn .none .none .none λv=>v) s:=@Flow.casesOn (λfl=>bG c A env sc φ h₀ (.fn Q) fl s->aA c.B φ h₀ Q (fl.casesOn .none .none .none λv=>v) s) fl (λx=>az x λρ σ φ' y=>⟨.d .none,σ,y.1,s8,y.2.2.1.less y.2.1.sub,y.2.2.2⟩) (λx=>x.elim) (λx=>az x λρ σ φ' y=>y.1.elim) (λu x=>az x λv σ φ' y=>⟨v,σ,y.1,y.2.1,y.2.2.2.1.less y.2.2.1,y.2.2.2.2⟩) x
theorem eI.px{p q:QI}{x:Q5}{ph:Option QS->Prop}(h:X p q σ)(D:eI B σ φ p q x ph h₀ s):Px B φ ph X (.ref x) s:=Q7 D λη D=>⟨p,q,σ,η,x,h,rfl,D.1,D.2.1,D.2.2.1⟩
theorem Mh{c:Cx}{env:Env}{sc:RE}{e:QS}(x:cW c A env sc φ e s):wpAny c.B.M A (leaving env e) (λ_ s'=>Px c.B φ q9 c.X e s') (λe s'=>Px c.B φ q9 c.X e s') s:=
 Q7 x λφ' x=>cm x.2 λp q σ η y x'=>ao x.1.at'.fe λg l z=>x'.2.1▸
  have D:=⟨η,x'.2.2.1,x'.2.2.2.1,x'.2.2.2.2,.refl _⟩
  QM (aG (wA z.1 z.2.2 (z.2.1.trans x.1.own) x.1.own D) (λ_ s' D=>aG (ue (λh=>h.elim λ_ y=>nomatch y.2) D) (λ_ s'' D=>(eI.px x'.1 D).less x.1.sub)))
theorem Calls.fn(hX:B.X f=some gn)(ln:vs.length=gn.params.length)(h:Ex (.fn B n (gn.params.zip vs) X) gn.body σ (.fn Q)):Calls B (n+1) f vs σ Q X:=λA φ s l u us hu hf hl hd hn hh S r=>az (B.fns f gn hX) λa fd body y=>(QK (y.1.symm.trans hu):RT a=u)▸by
 have F:=y.2;have ok:=v9 F.ok;have lu:=r.length.symm.trans ln
 refine F.obj.elim λo ho=>Xg (codeAny_call_cells (QO (QN (Ra _ _) (Ra _ _)) hd) (S.rel.base _ _ ho.1) ho.2 (B.lim.keeps S.rel.base) (F.qU.keeps S.rel.base) F.bd
  (yq ok.1.1 ok.1.2.1 ok.1.2.2.1 ok.1.2.2.2.1 ok.1.2.2.2.2 (wM F.nd) (lu.trans (QX _).symm) F.Dp) F.DP (λp m=>?_) (λs₁ ic=>?_) ok.2.2.1 ok.2.2.2.1 ok.2.1)
 ·exact (Su.mp (ZH m).1).elim λx z=>(rX (z.2▸ok.2.2.2.2.1 x z.1)).imp_right λk=>⟨k,(mu (.inl k)).elim λc hc=>R6.mpr ⟨c,hc⟩⟩
 ·generalize henv:Vj fd s.heap.objs.size a=env at ic⊢
  have I:=CL (X:=X) (by refine a9 henv ?_;rfl) (by refine a9 henv ?_;rfl) (by refine a9 henv ?_;exact F.fN) (by refine a9 henv ?_;exact F.bN) (by refine a9 henv ?_;rfl) (by refine a9 henv ?_;rfl) F.ok F.nd hf hl hd hn hh S r lu ic;exact Q7 I λφ' I=>RF (h (A.deeper env) env fd.scope φ φ' s₁ body I.1 hh ok.2.2.2.2.2 I.2.1) (λfl s' P=>by cases fl<;>exact aA.after I.2.2 (CI P)) λe s' P=>Mh P
end
section
variable{B:Bs}{σ φ:Map}{s:QT}{A:Rg}{n:Nat}{gn:Fn}{f i:String}{vs:List V}{X:QI->QI->Map->Prop}{Q:V->Map->Prop}{h':Rn}{a d:Q5}{ca cd:Cell}{tk:Nat}
theorem ag.AU(S:ag B σ φ s)(k:∀a o,s.heap.get? a=some o->h'.get? a=some o)(na:s.heap.get? a=none)(nd:s.heap.get? d=none)(ne:a≠d)(xa:B.aW h' a ca)(xd:B.aW h' d cd):ag B ((σ.put a ca).put d cd) φ {s with heap:=h',toks:=tk}:=
 have fa:=S.fresh na;have fd:=S.fresh nd
 ⟨S.rel.to (λb o e=>k b o (S.rel.base b o e)) (.of k) λb c e=>if qd:b=d then .inr (by subst qd;exact ⟨QK ((bh Map.a7).symm.trans e)▸xd,(S.rel.fresh nd).2⟩) else if qa:b=a then .inr (by subst qa;exact ⟨QK ((bh ((Map.aO qd).trans Map.a7)).symm.trans e)▸xa,(S.rel.fresh na).2⟩)
   else .inl ⟨fX e (λz=>bh ((Map.aO qa).symm.trans ((Map.aO qd).symm.trans z))) λz r=>(bf ((Map.aO qa).symm.trans ((Map.aO qd).symm.trans z))).trans r,k b⟩,
  λb q=>if qd:b=d then absurd (qd▸fd.2) q else if qa:b=a then absurd (qa▸fa.2) q else(Map.aO qd).trans ((Map.aO qa).trans (S.cA b q))⟩
theorem Calls.cls{D:kS}(hC:B.C f=some D)(hi:f++"."++"__init__"=i)(hX:B.X i=some gn)(h:∀a d,σ a=none->σ d=none->a≠d->Calls B n i (.r a::vs) ((σ.put a (.ins f d)).put d (.aF [])) (λv σ=>v=.d .none/\Q (.r a) σ) λ_ _ _=>False):Calls B (n+1) f vs σ Q X:=λA φ s l u us hu hf hl hd hn hh S r=>by
 refine (QK ((B.nW f D hC).symm.trans hu):RT D.C=u)▸?_;have K:=B.cls f D hC;refine az (B.fns i gn hX) λfI fd body y=>ao (K.me "__init__" _ (hi▸y.1)) λg og z=>?_;have eg:=SV z.1;obtain ⟨hp,gs,dr,tk,os⟩:=s;refine wpAny_call_obj_init Z6 (S.rel.base _ _ K.obj) (K.ns.keeps S.rel.base) z.2.1 (S.rel.base _ _ z.2.2.1) z.2.2.2 λh' x dx M=>?_;refine Q7 M.inst λo w=>w.2.2.2.elim (λq=>nomatch(M.dict o w.1).symm.trans q.1) λq=>q.elim λd' q=>?_;have ed:=QK (q.1.symm.trans (M.dict o w.1));have S':ag B ((σ.put x (.ins f dx)).put dx (.aF [])) φ ⟨h',gs,dr,tk,os⟩:=S.AU M.keeps M.newX M.newD (ed▸q.2.1.symm) ⟨o,w.1,.of w.2.1 nofun,⟨D.C,QQ (U0 _) hC,w.2.1⟩,M.dict o w.1,w.2.2.1⟩ (az (ed▸q.2.2) λod es ep v=>⟨od,v.1,.dict v.2.1,es,ep,v.2.1,v.2.2.1,v.2.2.2.1,nofun,λy hy=>absurd (v.2.2.2.2 y) hy⟩);have fx:=S.fresh M.newX;have fd':=S.fresh M.newD;refine RF (h x dx fx.1 fd'.1 (ed▸q.2.1.symm) (A.under (.builtin "type.__call__" ⟨.ref D.C::us,[]⟩)) φ ⟨h',gs,dr,tk,os⟩ l (.ref g) (.ref x::us) (eg▸y.1) ?_ hl ?_ ?_ hh S' (.cons rfl (jw (.of M.keeps) r))) (λr' s' P=>P.elim λv σ' q' rv S'' tk'=>⟨((q'.1▸rv:ak s'.heap (.d .none) r').rd:r'=.none),.r x,σ',q'.2,rfl,S'',(ax.of M.keeps).trans tk'⟩) λe s' P=>(cm P λ_ _ _ _ _ P=>P.1.elim)
 ·have e:(VZ "type.__call__" ⟨.ref D.C::us,[]⟩).envs=[]:=rfl
  simp only [Xh,e,pushEnvs,hf]
 ·rewrite [Zk];lia
 ·have e:(VZ "type.__call__" ⟨.ref D.C::us,[]⟩).cUnits=1:=rfl
  simp only [Xh,e];lia
end
noncomputable def Map.del(φ:Map)(a:Q5):Map:=λb=>if b=a then none else φ b
def Eo(φ φ':Map):Prop:=∀b c,φ b=some c->(∀o,c≠.raw o)->φ' b=some c
theorem sV{l:aK}:∀o,Cell.bo l≠.raw o:=λ_ e=>nomatch e
theorem wt{v:Option V}:∀o,Cell.bj v≠.raw o:=λ_ e=>nomatch e
section
variable{φ φ' φ₀ φ₁ σ:Map}{a b I:Q5}{c:Cx}{A:Rg}{env:Env}{sc:RE}{o:Obj}{s:QT}{e:QS}
theorem Nx{cl:Cell}(h:φ a=some cl):(φ.del a).put a cl=φ:=funext λb=>if e:b=a then(QR e).trans (e▸h.symm) else(QP e).trans (QP e)
theorem At.nr(w:Eo φ φ')(n:c.x=none)(t:At c A env sc φ):At c A env sc φ':=
 ⟨t.fe.imp λ_ y=>y.imp λ_ z=>⟨z.1,z.2.1,λe m=>(z.2.2 e m).imp_right λy=>y.imp λ_ y=>y.imp λ_ y=>⟨y.1,w _ _ y.2 sV⟩⟩,t.dep,t.fy,t.hd,t.fn,t.fN,t.bN,t.gl,t.bj,
  λx v i e=>(t.var x v i e).imp (λy=>y.imp_right λy=>y.imp λ_ z=>⟨w _ _ z.1 sV,z.2⟩) λy=>y.imp_right λy=>y.imp λ_ z=>⟨z.1,w _ _ z.2 wt⟩,λy p q e=>nomatch n.symm.trans e⟩
theorem Fr.nr(w:Eo φ φ')(u:Sub φ₁ φ')(z:∀b c,φ b=some c->(∀o,c≠.raw o)->φ₀ b=none->φ₁ b=none)(t:Fr c A env sc φ₀ φ):Fr c A env sc φ₁ φ':=⟨t.at'.nr w t.je,t.i8,t.bo.imp λ_ y=>w _ _ y sV,t.own,λn a h=>⟨(t.cell n a h).1.imp λ_ y=>w _ _ y wt,(t.cell n a h).1.elim λv y=>z a _ y wt (t.cell n a h).2⟩,t.inj,u,t.bo.elim λl y=>z _ _ y sV t.new,t.qt,t.je⟩
theorem Fr.it(n:φ I=none)(t:Fr c A env sc φ₀ φ):Fr c A env sc (φ₀.put I (.raw o)) (φ.put I (.raw o)):=
 have ne:∀{b d},φ b=some d->b≠I:=λe q=>nomatch(q▸e).symm.trans n
 t.nr (λb d e _=>(Map.aO (ne e)).trans e) (λb d e=>if q:b=I then(QR q).trans ((QR q).symm.trans e) else(QP q).trans (t.sub b d ((QP q).symm.trans e))) λb d e _ g=>(Map.aO (ne e)).trans g
theorem Fr.put{o':Obj}(h:φ I=some (.raw o))(h₀:φ₀ I=some (.raw o))(t:Fr c A env sc φ₀ φ):Fr c A env sc (φ₀.put I (.raw o')) (φ.put I (.raw o')):=
 have ne:∀{b d},φ b=some d->(∀o,d≠.raw o)->b≠I:=λe n q=>n o (QK ((q▸e).symm.trans h))
 t.nr (λb d e n=>(Map.aO (ne e n)).trans e) (λb d e=>if q:b=I then(QR q).trans ((QR q).symm.trans e) else(QP q).trans (t.sub b d ((QP q).symm.trans e))) λb d e n g=>(Map.aO (ne e n)).trans g
theorem Fr.del(h:φ I=some (.raw o))(n:φ₀ I=none)(t:Fr c A env sc (φ₀.put I (.raw o)) φ):Fr c A env sc φ₀ (φ.del I):=
 have ne:∀{b d},φ b=some d->(∀o,d≠.raw o)->b≠I:=λe n q=>n o (QK ((q▸e).symm.trans h))
 t.nr (λb d e n=>(QP (ne e n)).trans e) (λb d e=>have q:=λq=>nomatch(q▸e).symm.trans n;(QP q).trans (t.sub b d ((QP q).trans e))) λb d e n g=>(Map.aO (ne e n)).symm.trans g
theorem Fr.vA(u:Sub φ₀ φ₁)(t:Fr c A env sc φ₁ φ):Fr c A env sc φ₀ φ:=
 have z:∀{b},φ₁ b=none->φ₀ b=none:=λh=>Q9.mpr λd g=>nomatch(u _ d g).symm.trans h
 ⟨t.at',t.i8,t.bo,t.own,λn a h=>⟨(t.cell n a h).1,z (t.cell n a h).2⟩,t.inj,λb d e=>t.sub b d (u b d e),z t.new,t.qt,t.je⟩
theorem cW.vA(u:Sub φ₀ φ₁)(x:cW c A env sc φ₁ e s):cW c A env sc φ₀ e s:=SY (λ_ y=>⟨y.1.vA u,y.2⟩) x
theorem wZ{M:Ub}(x:cW c A env sc φ₀ e s):notedBy M A env (Yu M A env (cW c A env sc φ₀)) e s:=
 Q7 x λφ' x=>cm x.2 λp q σ η y x'=>ao x.1.at'.fe λg l z=>x'.2.1▸by
  have D:eI c.B σ φ' p q y (atAny env) s.heap s:=⟨η,x'.2.2.1,x'.2.2.2.1,x'.2.2.2.2,.refl _⟩;refine aG (wA z.1 z.2.2 (z.2.1.trans x.1.own) x.1.own D) (λ_ s1 D1=>?_);refine QM (FV (λh=>h.elim λ_ y=>aX y.2) D1 λT=>?_);refine aa (QP (show¬((RT T==Tq)=true) fromλe=>nomatch Q6.mp e)) ?_;have step:wpAny M A (setFlight (.ref y) env.frame) (λ_ s''=>cW c A env sc φ₀ (.ref y) s'') (cW c A env sc φ₀) s1:=aG (ue (λh=>h.elim λ_ y=>aX y.2) D1) (λ_ s2 D2=>⟨φ',x.1,(eI.px x'.1 D2).ph λo h=>.inr (.inr ⟨env.locals,x.1.own,h.trans (QQ (λf:Option Q5=>some (f.elim Tq λf=>UA f)) x.1.own)⟩)⟩)
  first
   |exact step
   |exact QM (QV step)
end
noncomputable def owners:List String:=["enumerate","zip","dict_itemiterator","dict_reverseitemiterator","odict_iterator","itertools.zip_longest","itertools.pairwise"]
theorem I2{prog:RU}{w:Sz}{A:Rg}{E:QS->QT->Prop}{s:QT}{G:Unit->QT->Prop}{tg:QL}{I:Q5}{u:QS}{o:Obj}{T:String}{vs:Array QS}(g:s.heap.get? I=some o)(c:o.cls=.type T)(d:o.data=.fields vs)(n:owners.contains T=false)(h:G () s):wpAny (model prog w) A (ZI tg (.ref I) u) G E s:=by
 have run:∀a,wpAny (model prog w) A (load I>>=λo=>match o.cls,o.data with
  |.type n,.fields vs=>if owners.contains n&&vs[0]?==some (UA a) then(do rule "for.unpacks-the-owned-tuple";updateField I 0 .none) else pure ()
  |_,_=>pure ()) G E s:=λa=>QM (Yv g (by
   refine aa c (aa d ?_);refine (?_:wpAny _ _ (if(owners.contains T&&vs[0]?==some (UA a))=true then _ else _) _ _ _);refine aa (QP (by rw [n];exact SD)) ?_;exact QV h))
 cases tg with
 |Tuple _ _ _=>cases u with
  |ref a=>exact run a
  |_=>exact QV h
 |List _ _=>cases u with
  |ref a=>exact run a
  |_=>exact QV h
 |_=>exact QV h
structure Walk B A I(R:Rn->Prop)(P:Map->Prop)(l:List V)(It:Nat->Obj->Prop):Prop where
 mono:∀{h h':Rn},ax h h'->R h->R h'
 item:∀{σ φ:Map}{s:QT}{i:Nat}{o:Obj}{x:V}{E:QS->QT->Prop},R s.heap->P σ->ag B σ (φ.put I (.raw o)) s->It i o->l[i]?=some x->wpAny B.M A (Yq (.ref I)) (λr s'=>∃w o',r=some w/\ak s'.heap x w/\It (i+1) o'/\ag B σ (φ.put I (.raw o')) s'/\ax s.heap s'.heap) E s
 fin:∀{σ φ:Map}{s:QT}{o:Obj}{E:QS->QT->Prop},φ I=none->R s.heap->P σ->ag B σ (φ.put I (.raw o)) s->It l.length o->wpAny B.M A (Yq (.ref I)) (λr s'=>r=none/\ag B σ φ s'/\ax s.heap s'.heap) E s
 own:∀{i:Nat}{o:Obj},It i o->∃T vs,o.cls=.type T/\o.data=.fields vs/\owners.contains T=false
theorem Hu{k:Nat}{u:QS}{i n:Nat}{o:Obj}(x:fQ k u i n o):∃T vs,o.cls=.type T/\o.data=.fields vs/\owners.contains T=false:=x.elim λa y=>match k,y with
 |0,y=>⟨_,_,y.2.1,y.2.2,by decide+kernel⟩
 |1,y=>⟨_,_,y.2.1,y.2.2,by decide+kernel⟩
 |_+2,y=>⟨_,_,y.2.1,y.2.2,(by decide+kernel:owners.contains "dict_keyiterator"=false)⟩
theorem zC{B:Bs}{A:Rg}{I:Q5}{k:Nat}{v:V}{u:QS}{l:List V}(hh:A.handled=none):Walk B A I (λh=>ak h v u) (λσ=>Src B σ k v l) l λi o=>fQ k u i l.length o:=⟨λtk r=>r.mono tk,λr K S it e=>Jy S K r it e,λn r K S it=>Jz hh n S K r it (SN (Rl _)),Hu⟩
def Turn(c:Cx)(xs:List String)(a:Ss)(P:Map->Prop)(K:bK)(l:List V):aK->Map->Prop:=l.rec (λρ σ=>P σ/\K.ay ρ σ) λx _ f ρ σ=>P σ/\jC (λρ=>Ex (c.at ρ) a σ ⟨f,K.ret,f⟩) (c.at ρ) xs x
theorem CX:S6 (.type "Exception") "code"=pure none:=by(rewrite [Tc];refine aa R9 ?_);kernel_rfl
theorem CY:S6 (.type "Exception") "at"=pure none:=by(rewrite [Tc];refine aa R9 ?_);kernel_rfl
noncomputable def CZ(p q:QI):aK:=[("at",.d q),("code",.d p)]
noncomputable def xX(e dx:Q5)(o:Obj)(p q:QI):Map:=λb=>if b=dx then some (.aF (CZ p q)) else if b=e then some (.raw o) else none
section
variable{B:Bs}{σ φ:Map}{s:QT}{A:Rg}{E:QS->QT->Prop}{p q:QI}{u v:QS}
theorem M4{h':Rn}{tk:Nat}{e dx:Q5}{o:Obj}(S:ag B σ φ s)(k:∀b o,s.heap.get? b=some o->h'.get? b=some o)(ne:s.heap.get? e=none)(nd:s.heap.get? dx=none)(nde:dx≠e)(ge:h'.get? e=some o)(co:o.cls=.ref B.e.a)(dd:o.dict=some dx){vs:Array QS}(df:o.data=.fields vs)(v1:vs[1]?=some .none)
  (ns:h'.Ns1 dx λy=>if y="at" then some v else if y="code" then some u else none) (ru:ak s.heap (.d p) u) (rv:ak s.heap (.d q) v):eI B σ φ p q e (atAny env) s.heap {s with heap:=h',toks:=tk}:=
 have tk:ax s.heap h':=.of k
 ⟨xX e dx o p q,⟨o,vs,dx,.none,CZ p q,(QP nde.symm).trans (QR rfl),co,dd,df,v1,.inl ⟨rfl,.inl rfl⟩,QR rfl,rfl,rfl⟩,
  S.frame k λb c g=>fX g .inl λn g=>.inr (if qd:b=dx then by
    subst qd
    exact ⟨nd,QK ((QR rfl).symm.trans g)▸az ns λod es ep w=>⟨od,w.1,.dict w.2.1,es,ep,w.2.1,w.2.2.1,w.2.2.2.1,(funext w.2.2.2.2)▸fo.cons (fo.cons (λ_ _ e=>aX e) (.refl _) ru) tk rv,λy hy=>by
     rw [w.2.2.2.2] at hy;exact if h1:y="at" then⟨_,.head _,h1.symm⟩ else if h2:y="code" then⟨_,.tail _ (.head _),h2.symm⟩ else absurd ((QP h1).trans (QP h2)) hy⟩⟩
   else if qe:b=e then by subst qe;exact ⟨ne,QK (((QP qd).trans (QR rfl):xX b dx o p q b=_).symm.trans g)▸hJ ge (eV df)⟩ else nomatch((QP qd).trans (QP qe):xX e dx o p q b=none).symm.trans g),
  λb h=>if qd:b=dx then qd▸(S.fresh nd).2 else if qe:b=e then qe▸(S.fresh ne).2 else absurd ((QP qd).trans (QP qe)) h,tk⟩
end
section
variable{B:Bs}{σ φ:Map}{s:QT}{A:Rg}{E:QS->QT->Prop}{p q:QI}{u v:QS}{env:Env}
theorem M6{G:QS->QT->Prop}(rm:A.depth+4<TF)(S:ag B σ φ s)(ru:ak s.heap (.d p) u)(rv:ak s.heap (.d q) v)
  (h:∀s' e dx t,s'.heap.get? e=some {cls:=.ref B.e.a,dict:=some dx,data:=.fields #[.ref t,.none,.none,.none,.bool false,.none]}->(∀b o,B.h.get? b=some o->s'.heap.get? b=some o)->eI B σ φ p q e (atAny env) s.heap s'->G (.ref e) s'):wpAny B.M A (call (.ref B.e.a) [u,v]) G E s:=by
 have X:=B.oo;have base:=S.rel.base
 have fin:∀h4 tk e dx t,(∀b o,s.heap.get? b=some o->h4.get? b=some o)->s.heap.get? e=none->s.heap.get? dx=none->dx≠e->h4.get? e=some {cls:=.ref B.e.a,dict:=some dx,data:=.fields #[.ref t,.none,.none,.none,.bool false,.none]}->h4.Ns1 dx (λy=>if y="at" then some v else if y="code" then some u else none)->G (.ref e) {s with heap:=h4,toks:=tk}:=
  λh4 tk e dx t k en dn ne g ns=>h _ e dx t g (λb o z=>k b o (base b o z)) (M4 S k en dn ne g rfl rfl rfl rfl ns ru rv)
 have ll:2<=TG:=by refine aa VI ?_;decide
 have e1:=X.no "__setattr__" (by simp [oi]);have e2:=X.no "code" (by simp [oi]);have e3:=X.no "at" (by simp [oi]);obtain ⟨hp,g,d,tk,os⟩:=s;refine FD (X.at base) X.Ce X.nW (base _ _ X.fn) X.fc (λh1 e hm=>?_) ll;obtain ⟨kp1,en,t,et,tn,tt⟩:=hm;have base1:=λb o z=>kp1 b o (base b o z);obtain ⟨p1,p2,p3,p4,p5,p6,p7,p8,hb⟩:=X.bd;refine Xg (codeAny_call_straight (QO (Rj (by decide:1<=4) A.depth) rm) (base1 _ _ X.fn) X.CR (B.lim.keeps base1) (X.qU.keeps base1) hb (X.args _ _ _) X.bj (λx hx=>?_) (λs2 ic=>?_) X.kind.2.1 X.kind.2.2 X.kind.1)
 ·simp only [QZ,List.not_mem_nil,or_false] at hx
  rcases hx with rfl|rfl|rfl
  ·exact X.loc.1
  ·exact X.loc.2.1
  ·exact X.loc.2.2
 ·have hl:∀{x:Str},B.e.fd.scope.names.lookup x=some .local->(callEnv B.e.fd h1.objs.size B.e.fI).kindOf x=some .local:=λq=>q
  obtain ⟨h2,tk2,rfl⟩:=ic.same;have ns2:=ic.ns;have base2:=λb o z=>ic.keep b o (base1 b o z);have e2':=ic.keep _ _ et;have elt:=SP (Vi et);have hsa:V1 (.Name "code" p3) (some (.Attribute (.Name "self" p1) "code" p2)) p4.line (callEnv B.e.fd h1.objs.size B.e.fI)=pure false:=rfl;have hsb:V1 (.Name "at" p7) (some (.Attribute (.Name "self" p5) "at" p6)) p8.line (callEnv B.e.fd h1.objs.size B.e.fI)=pure false:=rfl;have q1:(λx=>([(("self":Str),RT e),(("code":Str),u),(("at":Str),v)]:List (Str×QS)).reverse.lookup x) ("self":Str)=some (.ref e):=by first|rfl|kernel_rfl
  have q2:(λx=>([(("self":Str),RT e),(("code":Str),u),(("at":Str),v)]:List (Str×QS)).reverse.lookup x) ("code":Str)=some u:=by first|rfl|kernel_rfl
  have q3:(λx=>([(("self":Str),RT e),(("code":Str),u),(("at":Str),v)]:List (Str×QS)).reverse.lookup x) ("at":Str)=some v:=by first|rfl|kernel_rfl
  generalize (λx=>([(("self":Str),RT e),(("code":Str),u),(("at":Str),v)]:List (Str×QS)).reverse.lookup x)=m at ns2 q1 q2 q3;refine Vw (T8 (ldc X.kind.1 (hl X.loc.2.1) ns2 q2 (ldc X.kind.1 (hl X.loc.1) ns2 q1 ?_ (by decide)) (by decide)) hsa);refine y9 (X.at base2) e1.1 e1.2 e2' rfl ?_;refine Fq (X.at base2) e2.1 e2.2 CX e2' rfl rfl rfl λh3 dx tk3 dn e3' nd kp3=>⟨rfl,?_⟩;have ns3:h3.Ns h1.objs.size m:=az ns2 λo es ep z=>⟨o,es,ep,kp3 _ _ (UG elt) z.1,z.2⟩;have base3:=λb o z=>kp3 b o (λw=>nomatch(w▸base b o z).symm.trans (show hp.get? e=none from en)) (base2 b o z);have nde:dx≠e:=λz=>nomatch(z▸dn).symm.trans e2';refine Vw (T8 (ldc X.kind.1 (hl X.loc.2.2) ns3 q3 (ldc X.kind.1 (hl X.loc.1) ns3 q1 ?_ (by decide)) (by decide)) hsb);refine y9 (X.at base3) e1.1 e1.2 e3' rfl ?_;refine Fp (X.at base3) e3.1 e3.2 CY e3' rfl rfl rfl nd (Zt _ _ ael) (by simp) λh4 tk4 nd4 sb4=>⟨rfl,UY ⟨rfl,?_⟩⟩;have k2:∀b o,hp.get? b=some o->h2.get? b=some o:=λb o z=>ic.keep b o (kp1 b o z);exact fin h4 tk4 e dx t (λb o z=>(sb4.2 b (λw=>nomatch(w▸k2 b o z).symm.trans dn)).trans (kp3 b o (λw=>nomatch(w▸z).symm.trans en) (k2 b o z))) en (Q9.mpr λo z=>nomatch dn.symm.trans (k2 dx o z)) nde ((sb4.2 e (UG nde)).trans e3') nd4
end
section
variable{c:Cx}{σ:Map}{K:bK}
def Qa(c:Cx)(p:QI)(w:V)(σ:Map):Prop:=∃q,w=.d q/\c.X p q σ
def Qb(c:Cx)(e:E)(v:V)(σ:Map):Prop:=∃p,v=.d p/\Ev c e σ (Qa c p)
theorem br.raise{e1 e2:E}(h:Ev c e1 σ (Qb c e2)):br c (.raise "BadImage" e1 e2) σ K:=λA env sc φ₀ φ s z t hh m S=>pB.inv m λx k p m=>cg.inv m λy m=>dS.inv m λfn ls kw q m=>have m:=cV m;have g:jE sc "BadImage" fn:=dg.inv m.2.2.1;iq.inv m.2.2.2 λl r n=>have n:=ae n;(cS.inv m.1).symm▸(isNil.inv m.2.1).symm▸by
 obtain ⟨q',rfl⟩:=g.1.1;have X:=c.B.oo;rewrite [arm_exec_Raise];refine QM (Sf ?_);refine (?_:wpAny c.B.M A (raiseStmt env (some (do let v←eval (.Call (.Name (QJ "BadImage") q') [l,r] [] q) env;standAt p;pure v)) none) _ _ s);refine Fs (X:=c.B.e) hh (QM (Ux (ig S t.at' g (.inl X.top) ?_)));rewrite [fS (es:=.cons e1 (.cons e2 .nil)) (.mk n.1 (.one n.2))];refine oB (.cls X.obj) (Uj (t.ev h n.1 S λu s1 v σ1 q r S1 tk=>Q7 q λi q=>Uj (t.ev q.2 n.2 S1 λu' s2 w σ2 q2 r2 S2 tk2=>U7 ⟨⟨_,S2.rel⟩,Q7 q2 λj q2=>?_⟩)));refine M6 (env:=env) (by have:=t.at'.dep;lia) S2 ((q.1▸r:ak s1.heap (.d i) u).mono tk2) (q2.1▸r2:ak s2.heap (.d j) u') λs3 e dx tt g b D=>?_;exact QM (Sf (QV ⟨e,_,.ref tt,rfl,b _ _ X.obj,g,rfl,rfl,t.px (eI.px q2.2 D)⟩))
end
noncomputable def Bs.cF(B:Bs)(h:Rn):Bs:={B with an:=h}
noncomputable def Cx.tr(c:Cx)(h:Rn)(κ:aK)(X:QI->QI->Map->Prop):Cx:={c with B:=c.B.cF h,κ:=κ,X:=X}
noncomputable def Cx.hand(c:Cx)(x:String)(p q:QI)(ρ:aK):Cx:=⟨c.B,c.n,true,ρ,some (x,p,q),[],λ_ _ _=>False⟩
section
variable{c:Cx}{A:Rg}{env:Env}{sc:RE}{φ₀ φ η σ:Map}{s:QT}{K:bK}{a:Ss}{hd:E}{x:String}{κ ρ:aK}{X:QI->QI->Map->Prop}{p q:QI}{B:Bs}{g:Rn}
theorem ag.cF(S:ag B σ φ s):ag (B.cF s.heap) σ φ s:=⟨⟨S.rel.gens,S.rel.os,S.rel.base,S.rel.cell,S.rel.out,.refl _⟩,S.cA⟩
theorem ag.vg(k:ax B.an g)(S:ag (B.cF g) σ φ s):ag B σ φ s:=⟨⟨S.rel.gens,S.rel.os,S.rel.base,S.rel.cell,S.rel.out,k.trans S.rel.kI⟩,S.cA⟩
theorem Fr.tr(t:Fr c A env sc φ₀ φ)(k:rq κ c.ρ):Fr (c.tr g κ X) A env sc φ₀ φ:=⟨⟨t.at'.fe,t.at'.dep,t.at'.fy,t.at'.hd,t.at'.fn,t.at'.fN,t.at'.bN,t.at'.gl,t.at'.bj,t.at'.var,t.at'.oh⟩,t.i8,t.bo,t.own,t.cell,t.inj,t.sub,t.new,k,t.je⟩
theorem Fr.rt(k:rq c.κ ρ)(t:Fr ((c.tr g κ X).at ρ) A env sc φ₀ φ):Fr (c.at ρ) A env sc φ₀ φ:=⟨⟨t.at'.fe,t.at'.dep,t.at'.fy,t.at'.hd,t.at'.fn,t.at'.fN,t.at'.bN,t.at'.gl,t.at'.bj,t.at'.var,t.at'.oh⟩,t.i8,t.bo,t.own,t.cell,t.inj,t.sub,t.new,k,t.je⟩
theorem Fr.held{v:Option QS}(t:Fr c A env sc φ₀ φ):Fr {c with h:=true} (A.mark v) env sc φ₀ φ:=⟨⟨t.at'.fe,t.at'.dep,t.at'.fy,.inr rfl,t.at'.fn,t.at'.fN,t.at'.bN,t.at'.gl,t.at'.bj,t.at'.var,t.at'.oh⟩,t.i8,t.bo,t.own,t.cell,t.inj,t.sub,t.new,t.qt,t.je⟩
theorem Fr.under(sep:∀a,η a≠none->φ a=none)(t:Fr c A env sc φ₀ φ):Fr c A env sc (φ₀.join η) (φ.join η):=
 t.nr (λb d e _=>bh e) (λb d e=>fX e (λl=>bh (t.sub b d l)) λ_ r=>(bf (sep b (r▸Q1 _))).trans r)
  λb d e _ g=>join_none g (RY λn=>nomatch e.symm.trans (sep b n))
theorem At.hand{e:Q5}{ph:Option QS->Prop}(t:At (c.at ((x,.r e)::κ)) A env sc φ)(nx:κ.lookup x=none)(lx:jl sc (QJ x)=true)(f:jH c.B.e.a φ e p q ph):At (c.hand x p q κ) A env sc φ:=⟨t.fe,t.dep,t.fy,.inr rfl,t.fn,t.fN,t.bN,t.gl,t.bj,λy u i g=>t.var y u i ((fG λw=>nomatch(w▸g).symm.trans nx).trans g),λy i j g=>have g:=QK g;⟨e,ph,(Tx g).1▸t.var x (.r e) lx lookup_cons_self,(Tx (Tx g).2).1▸(Tx (Tx g).2).2▸f⟩⟩
theorem Hk{M:Ub}{z:QL}{p:Pos}{G:ZE->QT->Prop}{E:QS->QT->Prop}(h:wpAny M A (eval z env) (λu s'=>G (.ret u) s') E s):wpAny M A (execs [.Return (some z) p] env) G E s:=Vw (YQ h)
theorem FT{h₀:Rn}{hb:QL}{rp:Pos}{φ1 η4:Map}{y:Q5}{ph:Option QS->Prop}{s4:QT}{hp:Pos}{G:ZE->QT->Prop}{E1 E2 E3:QS->QT->Prop}(hκ:c.κ=[])(nx:κ.lookup x=none)(hsto:fY sc (QJ x)=true)(hloc:jl sc (QJ x)=true)(m2:sc.names.lookup (QJ x)=some .local)(m3:bq sc hd hb)(t1:Fr (c.at κ) A env sc φ₀ φ1)
  (f4:jH c.B.e.a η4 y p q ph) (S4:ag c.B σ (φ1.join η4) s4) (sep:∀a,η4 a≠none->φ1 a=none) (tk:ax h₀ s4.heap) (hc:Ev (c.hand x p q κ) hd σ K.ret)
  (hG:∀u s6,wpAny c.B.M A (do bindName env (QJ x) .none;unbindBehindTheSuite env (QJ x) hp) (λ_ s'=>bG c A env sc φ₀ h₀ K (.ret u) s') E3 s6->G (.ret u) s6):
  wpAny c.B.M (A.mark (some (.ref y))) (storeName env (QJ x) (.ref y)) (λ_ s5=>wpAny c.B.M (A.mark (some (.ref y))) (execs [.Return (some hb) rp] env) G E1 s5) E2 s4:=by
 have t4:=(t1.under sep).held (v:=some (.ref y));refine aG (jW (v:=.r y) t4 hsto (hκ▸rfl) S4 rfl) (λ_ s5 P5=>Q7 P5 λφ5 P5=>?_);have f5:=f4.more λb d e=>P5.1.sub b d ((bf (Q9.mpr λd' g=>nomatch(t1.sub b d' g).symm.trans (sep b λr=>nomatch e.symm.trans r))).trans e);refine Hk (RF (hc _ env sc φ5 s5 hb (P5.1.at'.hand nx hloc f5) m3 P5.2.1) (λu s6 P6=>ao P6 λw σ6 P6=>?_) λ_ _ z=>cm z λ_ _ _ _ _ z=>z.1.elim);refine P5.1.bo.elim λl hl=>(P6.2.2.1.r hl).bo.elim λm6 y6=>?_
 exact hG u s6<|wpAny_nameGoes ((t1.i8 _ hsto).1.trans m2) y6.1 (by refine aa t1.at'.fn ?_;rfl) λh' m7 hn hs=>
  ⟨w,σ6,φ5.put env.locals (.bo []),P6.1,P6.2.1.mono (P6.2.2.1.k8 hl hs),λb d e=>(Map.aO λq=>(nomatch(q▸e).symm.trans t1.new)).trans (P5.1.sub b d (bh e)),P6.2.2.1.jb hl hs λ_=>Ns.cell hn λ_ _ e=>(nomatch e),
   ((tk.trans P5.2.2).trans P6.2.2.2).trans (P6.2.2.1.k8 hl hs)⟩
theorem FU{h₀:Rn}{ht hb:QL}{rp hp:Pos}{φ1:Map}{y:Q5}{ph:Option QS->Prop}{s3:QT}(hκ:c.κ=[])(nx:κ.lookup x=none)(hsto:fY sc (QJ x)=true)(hloc:jl sc (QJ x)=true)(m1:jE sc "BadImage" ht)(m2:sc.names.lookup (QJ x)=some .local)(m3:bq sc hd hb)(t1:Fr (c.at κ) A env sc φ₀ φ1)
  (nt:¬ph none) (D:eI c.B σ φ1 p q y ph h₀ s3) (hc:Ev (c.hand x p q κ) hd σ K.ret):wpAny c.B.M A (handleBy (.ref y) env [.ExceptHandler (some ht) (some (QJ x)) [.Return (some hb) rp] hp]) (bG c A env sc φ₀ h₀ K) (cW c A env sc φ₀) s3:=by
 refine Q7 D λη3 D3=>?_;have t3:=(t1.under D3.2.2.1).held (v:=some (.ref y));refine cm D3.1.it λoe vs dx tb l f=>?_;refine wpAny_handleBy_cons (codeAny_handlers_test (ig (c:={c.at κ with h:=true}) D3.2.1 t3.at' m1 (.inl c.B.oo.top) ?_)) nofun;refine wpAny_excMatches_sub_self (D3.2.1.rel.base _ _ c.B.oo.obj) (lC D3.2.1 D3.2.2.1 f.1) f.2.1 (by simp [dv]) ?_;refine codeAny_handlers_suite_as ?_;refine aG (ue nt D) (λ_ s4 D=>Q7 D λη4 D4=>?_);exact FT hκ nx hsto hloc m2 m3 t1 D4.1 D4.2.1 D4.2.2.1 D4.2.2.2 hc λ_ _ z=>z
theorem br.i5(hκ:c.κ=[])(kp:rq κ c.ρ)(nx:κ.lookup x=none)(n0:(QJ x==(".0":Str))=false)(h:∀g,Ex (c.tr g κ X) a σ K)(hc:∀p q σ,X p q σ->Ev (c.hand x p q κ) hd σ K.ret):br c (.i5 a "BadImage" x hd) σ K:=λA env sc φ₀ φ s z t hh m S=>pA.inv m λa' hs b d p0 m=>have m:=dG m;qG.inv (ae m.2.2).2 λht hp rp hb m1 m2 m3=>(isNil.inv m.1).symm▸(isNil.inv m.2.1).symm▸by
 have hsto:fY sc (QJ x)=true:=Q8.mpr ⟨by refine aa n0 ?_;rfl,by exact aa m2 rfl⟩;have hloc:jl sc (QJ x)=true:=Q8.mpr ⟨by refine aa n0 ?_;rfl,by exact aa m2 rfl⟩;have kc:∀{ρ},rq c.κ ρ:=λy u e=>aX (hκ▸e:([]:aK).lookup y=some u);refine wpAny_Try_except (RF (h s.heap A env sc φ₀ φ s a' (t.tr kp) hh (ae m.2.2).1 S.cF) (λf s1 P=>?_) λe s1 P=>?_)
 ·have ay:∀{Q:aK->Map->Prop},bL (c.tr s.heap κ X) A env sc φ₀ s.heap Q s1->bL c A env sc φ₀ s.heap Q s1:=λP=>az P λρ σ φ y=>⟨ρ,σ,φ,y.1,y.2.1.rt kc,y.2.2.1.vg S.rel.kI,y.2.2.2⟩
  cases f with
  |next=>exact UY (ay P)
  |cont=>exact ay P
  |brk=>exact P
  |ret v=>exact az P λv σ φ y=>⟨v,σ,φ,y.1,y.2.1,y.2.2.1,y.2.2.2.1.vg S.rel.kI,y.2.2.2.2⟩
 ·refine Q7 P λφ1 P=>cm P.2 λp q σ1 η y P'=>P'.2.1▸?_
  have t1:Fr (c.at κ) A env sc φ₀ φ1:=Fr.rt kc P.1;refine ao t1.at'.fe λg l z=>?_;refine aG (wA z.1 z.2.2 (z.2.1.trans t1.own) t1.own (⟨η,P'.2.2.1,P'.2.2.2.1.vg S.rel.kI,P'.2.2.2.2,P'.2.2.2.1.rel.kI⟩:eI c.B σ1 φ1 p q y (atAny env) s.heap s1)) (λ_ s2 D=>aG (ue (λh=>h.elim λ_ y=>aX y.2) D) (λ_ s3 D=>FU hκ nx hsto hloc m1 m2 m3 t1 nofun D (hc p q σ1 P'.1)))
end
section
variable{c:Cx}{σ φ:Map}{s:QT}{A:Rg}{G:QS->QT->Prop}{E':QS->QT->Prop}{x f:String}{p q v:QI}{Q:V->Map->Prop}{e:Q5}{ph:Option QS->Prop}
theorem M7{fill:Bool}(S:ag c.B σ φ s)(F:jH c.B.e.a φ e p q ph)(hf:(f="code"/\v=p)\/(f="at"/\v=q))(k:∀u tk,ak s.heap (.d v) u->G u {s with toks:=tk}):wpAny c.B.M A (Yc (.ref e) (QJ f) fill) G E' s:=
 cm F.it λoe vs dx tb l y=>(S.r y.2.2.2.2.2.2.1).aF.elim λm w=>
  have X:=c.B.oo;have b:=S.rel.base;have g1:=X.no "__getattribute__" (.head _);have g2:=X.no "__getattr__" (.tail _ (.head _))
  have go:∀{n:Str}{d:QI},n∈oi->S6 (.type "Exception") n=pure none->(∃u,m n=some u/\ak s.heap (.d d) u)->(∀u tk,ak s.heap (.d d) u->G u {s with toks:=tk})->wpAny c.B.M A (Yc (.ref e) n fill) G E' s:=λi t u k=>u.elim λu r=>
   Fw (X.at b) (X.no _ i).1 (X.no _ i).2 t g1.1 g1.2 g2.1 g2.2 ((S.r y.1).elim λo' z=>z.2.2▸z.1) y.2.1 y.2.2.1 y.2.2.2.1 w.1.ns r.1 (handed r.2) (k u _ r.2)
  hf.elim (λhf=>hf.1▸go (.tail _ (.tail _ (.tail _ (.head _)))) CX (w.2.1 "code" _ (hf.2▸y.2.2.2.2.2.2.2.1)) k) λhf=>hf.1▸go (.tail _ (.tail _ (.tail _ (.tail _ (.head _))))) CY (w.2.1 "at" _ (hf.2▸y.2.2.2.2.2.2.2.2)) k
theorem Ev.iG(hx:c.x=some (x,p,q))(hf:(f="code"/\v=p)\/(f="at"/\v=q))(k:Q (.d v) σ):Ev c (.iG x f) σ Q:=λA env sc φ s z a m S=>eN.inv m.b λo a' p m=>have m:=ae m;have g:uK sc x o:=dO.inv m.2;eq_of_beq m.1▸g.1.elim λn g'=>g'▸Yl ..▸yx (o:=.Name (QJ x) n) rfl▸ao (a.oh x _ _ hx) λe ph y=>
 QM (wpAny_Name (w1 S a.fn y.1 g.2 λu r=>r▸QM (Sf (QM (RA (M7 S y.2 hf λu tk r=>QM (VH (QV ⟨_,σ,k,r,S.same,.refl _⟩))))))) (uk g.2).1)
end
noncomputable def Map.out(φ η:Map):Map:=λb=>if η b=none then φ b else none
def Ek(η:Map):Prop:=∀b d,η b=some d->∃o,d=.raw o
section
variable{c:Cx}{A:Rg}{env:Env}{sc:RE}{φ₀ φ η η':Map}{b:Q5}
theorem sG(n:η b=none):φ.out η b=φ b:=QR n
theorem sF(n:η b≠none):φ.out η b=none:=QP n
theorem I9(u:Sub η φ):(φ.out η).join η=φ:=funext λb=>by
 cases e:η b with
 |none=>cases f:φ b with
  |none=>exact join_none ((sG e).trans f) e
  |some d=>exact bh ((sG e).trans f)
 |some d=>exact (bf (sF λn=>nomatch e.symm.trans n)).trans (e.trans (u b d e).symm)
theorem Fr.I8(w:Ek η)(u:Sub η φ)(n:∀b,η b≠none->φ₀ b=none)(t:Fr c A env sc (φ₀.join η) φ):Fr c A env sc φ₀ (φ.out η):=
 have k:∀{b d},φ b=some d->(∀o,d≠.raw o)->η b=none:=λ{b d} e q=>Q9.mpr λd' g=>(w b d' g).elim λo r=>q o (QK (e.symm.trans ((u b d' g).trans (QQ some r))))
 t.nr (λb d e q=>(sG (k e q)).trans e) (λb d e=>(sG (RY λm=>nomatch(n b m).symm.trans e)).trans (t.sub b d (bh e))) λb d e q g=>Q9.mpr λd' r=>nomatch(bh r).symm.trans g
end
def Sep(η φ:Map):Prop:=∀b,η b≠none->φ b=none
def Qs(B:Bs)(h₀:Rn)(σ φ η:Map)(It:Map->Prop)(x:V)(w:QS)(s:QT):Prop:=∃η',It η'/\(∀b,η' b≠none->η b≠none)/\ak s.heap x w/\ag B σ (φ.join η') s/\ax h₀ s.heap
structure Walks B A tg I(R:Rn->Prop)(P:Map->Prop)(l:List V)(It:Nat->Map->Prop):Prop where
 mono:∀{h h':Rn},ax h h'->R h->R h'
 item:∀{σ φ η:Map}{s:QT}{i:Nat}{x:V}{E:QS->QT->Prop},Sep η φ->R s.heap->P σ->ag B σ (φ.join η) s->It i η->l[i]?=some x->wpAny B.M A (Yq (.ref I)) (λr s1=>∃w,r=some w/\wpAny B.M A (ZI tg (.ref I) w) (λ_ s2=>Qs B s.heap σ φ η (It (i+1)) x w s2) E s1) E s
 fin:∀{σ φ η:Map}{s:QT}{E:QS->QT->Prop},Sep η φ->R s.heap->P σ->ag B σ (φ.join η) s->It l.length η->wpAny B.M A (Yq (.ref I)) (λr s'=>r=none/\ag B σ φ s'/\ax s.heap s'.heap) E s
 raw:∀{i:Nat}{η:Map},It i η->Ek η
section
variable{c:Cx}{A:Rg}{env:Env}{sc:RE}{φ₀ φ σ:Map}{s:QT}{K:bK}{xs:List String}{a:Ss}{I:Q5}{R:Rn->Prop}{P:Map->Prop}{l:List V}{It:Nat->Map->Prop}{h₀:Rn}
def uU(c:Cx)(A:Rg)(env:Env)(sc:RE)(φ₀:Map)(h₀:Rn)(R:Rn->Prop)(l:List V)(It:Nat->Map->Prop)(T:List V->aK->Map->Prop)(k:Nat)(s:QT):Prop:=∃i ρ σ φ η,k=l.length+1 -i/\i<=l.length/\Fr (c.at ρ) A env sc (φ₀.join η) φ/\ag c.B σ φ s/\It i η/\R s.heap/\ax h₀ s.heap/\T (l.drop i) ρ σ/\Sep η φ₀
abbrev P7(c:Cx)(A:Rg)(env:Env)(sc:RE)(φ₀:Map)(h₀:Rn)(K:bK)(r:Except QS ZE)(s':QT):Prop:=match r with|.ok f=>bG c A env sc φ₀ h₀ K f s'|.error e=>Yu c.B.M A env (cW c A env sc φ₀) e s'
theorem CD{tg:QL}{body:List So}(W:Walks c.B A tg I R P l It)(hh:A.handled=none)(ht:jz sc xs tg)(hk:∀x∈xs,c.κ.lookup x=none)(mb:dI sc a body){k:Nat}(h:uU c A env sc φ₀ h₀ R l It (Turn c xs a P K) k s):
  XX c.B.M A (.forLoop tg (.ref I) body [] env) (P7 c A env sc φ₀ h₀ K) s:=by
 refine codeAny_forLoop_any (uU c A env sc φ₀ h₀ R l It (Turn c xs a P K)) (λk s y=>cm y λi ρ σ φ η y=>?_) k h;have t:=y.2.2.1;have ns:=y.2.2.2.2.2.2.2.2;have T:=y.2.2.2.2.2.2.2.1;have u:=λb d e=>t.sub b d ((bf (ns b λq=>nomatch e.symm.trans q)).trans e);have S:=(I9 u).symm▸y.2.2.2.1;have u0:∀{η},Sub φ₀ (φ₀.join η):=λb d e=>bh e;have t0:=t.I8 (W.raw y.2.2.2.2.1) u ns;generalize hx:l[i]?=r
 cases r with
 |none=>
  have ei:=VQ y.2.1 (UL.mp hx);subst ei;rw [Zl] at T;refine aG (W.fin (λ_=>sF) y.2.2.2.2.2.1 T.1 S y.2.2.2.2.1) (λr s1 z=>z.1▸UY ⟨ρ,σ,φ.out η,T.2,t0,z.2.1,y.2.2.2.2.2.2.1.trans z.2.2⟩)
 |some x=>
  have lt:=(Sl.mp hx).1;rw [Wu lt,(Sl.mp hx).2] at T;refine aG (W.item (λ_=>sF) y.2.2.2.2.2.1 T.1 S y.2.2.2.2.1 hx) (λr s1 z=>Q7 z λw z=>z.1▸aG z.2 (λ_ s1 z=>Q7 z λη' z=>?_));have t1:=t0.under λb q=>sF (z.2.1 b q);have tk1:=y.2.2.2.2.2.2.1.trans z.2.2.2.2;refine aG (zx (c:=c.at ρ) hh t1 ht hk T.2 z.2.2.2.1 z.2.2.1) (λ_ s2 b=>Q7 b λρ' b=>Q7 b.2 λφ2 b2=>?_);refine RF (b.1 A env sc _ φ2 s2 _ b2.1 hh mb b2.2.1) (λf s3 p=>?_) λe s3 p=>wZ (cW.vA u0 p);have tk2:=tk1.trans b2.2.2;have nx:bL (c.at ρ') A env sc (φ₀.join η') s2.heap (Turn c xs a P K (l.drop (i+1))) s3->∃m,m<k/\uU c A env sc φ₀ h₀ R l It (Turn c xs a P K) m s3:=λp=>az p λρ3 σ3 φ3 p=>⟨l.length+1 -(i+1),y.1.symm▸X6 (Vk lt) (SU i),i+1,ρ3,σ3,φ3,η',rfl,lt,p.2.1,p.2.2.1,z.1,W.mono (z.2.2.2.2.trans (b2.2.2.trans p.2.2.2)) y.2.2.2.2.2.1,tk2.trans p.2.2.2,p.1,λb q=>ns b (z.2.1 b q)⟩
  exact @Flow.casesOn (λf=>bG (c.at ρ') A env sc (φ₀.join η') s2.heap ⟨Turn c xs a P K (l.drop (i+1)),K.ret,Turn c xs a P K (l.drop (i+1))⟩ f s3->(match f with
      |.next|.cont=>∃m,m<k/\uU c A env sc φ₀ h₀ R l It (Turn c xs a P K) m s3
      |.brk=>bG c A env sc φ₀ h₀ K .next s3
      |.ret v=>bG c A env sc φ₀ h₀ K (.ret v) s3)) f nx (λp=>p.elim) nx (λv p=>az p λw σ φ p=>⟨w,σ,φ,p.1,p.2.1,λb d e=>p.2.2.1 b d (u0 b d e),p.2.2.2.1,tk2.trans p.2.2.2.2⟩) p
end
theorem xO{e:QL}{env:Env}{x:QS}(h:pS e=false):foldedSetIterable e env x=pure x:=by
 cases e with
 |Set _ _ _=>exact ff h.symm
 |_=>rfl
section
variable{c:Cx}{A:Rg}{env:Env}{sc:RE}{φ₀ φ σ:Map}{s:QT}{K:bK}{xs:List String}{a:Ss}{I:Q5}{R:Rn->Prop}{P:Map->Prop}{l:List V}{It:Nat->Obj->Prop}{h₀:Rn}{e:E}
noncomputable def lG(I:Q5)(o:Obj):Map:=λb=>if b=I then some (.raw o) else none
theorem v8{o:Obj}:lG I o I=some (.raw o):=QR rfl
theorem sI{o:Obj}{b:Q5}(n:lG I o b≠none):b=I:=RY λe=>n (QP e)
theorem sJ{o:Obj}(n:φ I=none):φ.join (lG I o)=φ.put I (.raw o):=funext λb=>if e:b=I then(bf (e▸n)).trans ((QR e).trans (QR e).symm) else(show(φ.join (lG I o)) b=φ b by
 cases g:φ b with
 |some d=>exact bh g
 |none=>exact (bf g).trans (QP e)).trans (QP e).symm
theorem Walk.ws{tg:QL}(W:Walk c.B A I R P l It):Walks c.B A tg I R P l λi η=>∃o,η=lG I o/\It i o where
 mono:=W.mono
 item:=λsep r p S it e=>Q7 it λo y=>by
  obtain ⟨rfl,y⟩:=y;have n:=sep I (v8▸Q1 _);exact aG (W.item r p (sJ n▸S) y e) (λ_ s1 z=>ao z λw o' z=>⟨w,z.1,(W.own z.2.2.1).elim λT x=>x.elim λvs q=>I2 ((z.2.2.2.1.r Map.a7).elim λo y=>y.2.2▸y.1) q.1 q.2.1 q.2.2 ⟨lG I o',⟨o',rfl,z.2.2.1⟩,λb q=>sI q▸v8▸Q1 _,z.2.1,(sJ n).symm▸z.2.2.2.1,z.2.2.2.2⟩⟩)
 fin:=λsep r p S it=>Q7 it λo y=>by
  obtain ⟨rfl,y⟩:=y;have n:=sep I (v8▸Q1 _);exact W.fin n r p (sJ n▸S) y
 raw:=λit b d e=>Q7 it λo y=>⟨o,QK (e.symm.trans ((congrFun y.1 b).trans (QR (sI (y.1▸e▸Q1 _)))))⟩
theorem CE{tg:QL}{body:List So}{o:Obj}(W:Walk c.B A I R P l It)(t:Fr c A env sc φ₀ φ)(hh:A.handled=none)(n:φ I=none)(ht:jz sc xs tg)(hk:∀x∈xs,c.κ.lookup x=none)(mb:dI sc a body)(S:ag c.B σ (φ.put I (.raw o)) s)(it:It 0 o)(r:R s.heap)(tk:ax h₀ s.heap)(T:Turn c xs a P K l c.ρ σ):
  XX c.B.M A (.forLoop tg (.ref I) body [] env) (λr s'=>match r with|.ok f=>bG c A env sc φ₀ h₀ K f s'|.error e=>Yu c.B.M A env (cW c A env sc φ₀) e s') s:=
 CD W.ws hh ht hk mb ⟨0,c.ρ,σ,_,lG I o,rfl,Rr _,t.under λb q=>(sI q).symm▸n,sJ n▸S,⟨o,rfl,it⟩,r,tk,Z7▸T,λb q=>(sI q).symm▸Q9.mpr λd g=>nomatch(t.sub _ d g).symm.trans n⟩
def Qi(c:Cx)(xs:List String)(a:Ss)(K:bK)(v:V)(σ:Map):Prop:=∃k l,Src c.B σ k v l/\Turn c xs a (λσ=>Src c.B σ k v l) K l c.ρ σ
theorem br.jr(hk:∀x∈xs,c.κ.lookup x=none)(h:Ev c e σ (Qi c xs a K)):br c (.jr xs e a) σ K:=λA env sc φ₀ φ s z t hh m S=>eU.inv m λtg i b e p m=>have m:=cV m;have g:jz sc xs tg:=gH.inv m.2.1;isNil.inv m.1▸
 Zm (t.ev h m.2.2.1 S λu s1 v σ1 q r S1 tk=>ao q λk l q=>aG (B1 S1 q.1 r) (λu' s2 y=>ao y λI o y=>y.1▸CE (zC hh) t hh y.2.2.1 g hk m.2.2.2 y.2.2.2.1 y.2.1 (r.mono y.2.2.2.2) (tk.trans y.2.2.2.2) q.2)) λx=>xO (bq.odd m.2.2.1)
end
noncomputable def m4(a b:Int):List V:=(RP (b -a).toNat).map λk:Nat=>V.d (.int (a+k))
noncomputable def vH(x left:Int):Obj:={cls:=.type "range_iterator",data:=.fields #[UA x,UA left,UA 1]}
section
variable{c:Cx}{A:Rg}{env:Env}{sc:RE}{φ₀ φ σ:Map}{s:QT}{K:bK}{a:Ss}{I:Q5}{h₀:Rn}{x:String}{i j:Int}
theorem Hj{B:Bs}(hh:A.handled=none):Walk B A I (λ_=>True) (λ_=>True) (m4 i j) λk o=>o=vH (i+k) ((j -i).toNat -k) where
 mono:=λ_ r=>r
 item:=λ{σ φ s k o y E} _ _ S it e=>by
  subst it;have e2:=RH.mp (RJ.symm.trans e);refine e2.elim λm e3=>?_;have e4:=Sl.mp e3.1;refine e4.elim λlt e5=>?_;have lt:=Wi lt Sw;have e6:=e5.symm.trans (List.getElem_range ..);subst e6;have g:=(S.r Map.a7).elim λo y=>y.2.2▸y.1;refine wpAny_pyNext_range_item g (by lia) λh' it' hs=>?_;have tk:ax s.heap h':=.but hs λb e=>((S.r Map.a7).obj e).1;refine ⟨_,_,rfl,e3.2▸iy _ _,?_,lD▸S.jb Map.a7 hs λ_=>hJ it' (eV rfl),tk⟩
  (rewrite [vH];refine aa (show i+((m+1:Nat):Int)=i+m+1 by lia) (aa (show(((j -i).toNat:Int)-((m+1:Nat):Int))=(j -i).toNat -m -1 by lia) ?_);rfl)
 fin:=λ{σ φ s o E} n _ _ S it=>by
  subst it;have g:=(S.r Map.a7).elim λo y=>y.2.2▸y.1;refine wpAny_pyNext_range_end hh g (by(rewrite [m4,QX];refine aa Sw ?_);lia) λh' hs=>⟨rfl,S.drop n hs⟩
 own:=λit=>it▸⟨_,_,rfl,rfl,by decide+kernel⟩
def Er(c:Cx)(x:String)(a:Ss)(K:bK)(i:Int)(w:V)(σ:Map):Prop:=∃j,w=.d (.int j)/\small i/\small j/\Turn c [x] a (λ_=>True) K (m4 i j) c.ρ σ
theorem zX{tg:QL}{body:List So}{R:Q5}{t1 t2 t3:Tok}(t:Fr c A env sc φ₀ φ)(hh:A.handled=none)(ht:gq sc x tg)(hk:c.κ.lookup x=none)(mb:dI sc a body)(hi:small i)(hj:small j)(S:ag c.B σ φ s)(r:IsRange s.heap R i j 1 t1 t2 t3)(tk:ax h₀ s.heap)(T:Turn c [x] a (λ_=>True) K (m4 i j) c.ρ σ):
  wpAny c.B.M A (pyIter (.ref R)) (λit s₂=>XX c.B.M A (.forLoop tg it body [] env) (λr s'=>match r with|.ok f=>bG c A env sc φ₀ h₀ K f s'|.error e=>Yu c.B.M A env (cW c A env sc φ₀) e s') s₂) (cW c A env sc φ₀) s:=by
 refine wpAny_pyIter_range r (small_one (by unfold small at hi;lia) hi.2 (by unfold small at hj;lia) hj.2) ?_;have e0:aaU i j 1=((j -i).toNat:Int)-((0:Nat):Int):=by rewrite [rangeSize_one];split<;>lia
 refine aa e0 ?_;have f:s.heap.get? s.heap.objs.size=none:=Ru (Rl _);exact CE (Hj hh) t hh (S.fresh f).2 (.inl ⟨x,rfl,ht⟩) (λy m=>QW.mp m▸hk) mb (S.p9 (c:=.raw (vH i ((j -i).toNat -((0:Nat):Int)))) (λ_ _ e=>QY _ e) f λ_=>hJ (RS _ rfl) (eV rfl)) (by exact aa (show i+((0:Nat):Int)=i from Int.add_zero i) rfl) trivial (tk.trans jc) T
theorem br.f6{hi:E}(hk:c.κ.lookup x=none)(h:Ev c hi σ (Er c x a K 0)):br c (.f6 x hi a) σ K:=λA env sc φ₀ φ s z t hh m S=>eU.inv m λtg it b o p m=>have m:=cV m;have g:gq sc x tg:=cO.inv m.2.1;gG.inv m.2.2.1 λfn ls q m' n=>a8.inv n λl n=>isNil.inv m.1▸by
 obtain ⟨q',rfl⟩:=m'.1.1;refine Zm (Ux (ig S t.at' m' (c.B.look "range" _ (by decide+kernel) c.B.vI) ?_)) (λ_=>rfl);rewrite [fS (es:=.cons hi .nil) (.one n)];refine oB (.type "range") (Uj (t.ev h n S λu s1 v σ1 q r S1 tk=>U7 ⟨⟨_,S1.rel⟩,Q7 q λj q=>(q.1▸r:ak s1.heap (.d (.int j)) u).rd.elim λt1 e=>e▸call_range_1 ?_⟩));exact zX t hh g hk m.2.2.2 q.2.1 q.2.2.1 (S1.more λ_ _ e=>QY _ e) (acO ..) (tk.trans jc) q.2.2.2
theorem br.iC{lo hi:E}(hk:c.κ.lookup x=none)(h:Ev c lo σ λv σ=>∃i,v=.d (.int i)/\Ev c hi σ (Er c x a K i)):br c (.iC x lo hi a) σ K:=λA env sc φ₀ φ s z t hh m S=>eU.inv m λtg it b o p m=>have m:=cV m;have g:gq sc x tg:=cO.inv m.2.1;gG.inv m.2.2.1 λfn ls q m' n=>iq.inv n λl l' n=>have n:=ae n;isNil.inv m.1▸by
 obtain ⟨q',rfl⟩:=m'.1.1;refine Zm (Ux (ig S t.at' m' (c.B.look "range" _ (by decide+kernel) c.B.vI) ?_)) (λ_=>rfl);rewrite [fS (es:=.cons lo (.cons hi .nil)) (.mk n.1 (.one n.2))];refine oB (.type "range") (Uj (t.ev h n.1 S λu s1 v σ1 q r S1 tk=>Q7 q λi q=>Uj (t.ev q.2 n.2 S1 λu' s2 w σ2 q2 r2 S2 tk2=>U7 ⟨⟨_,S2.rel⟩,Q7 q2 λj q2=>((q.1▸r:ak s1.heap (.d (.int i)) u).mono tk2).rd.elim λt1 e=>e▸(q2.1▸r2:ak s2.heap (.d (.int j)) u').rd.elim λt2 e=>e▸call_range_2 ?_⟩)));exact zX t hh g hk m.2.2.2 q2.2.1 q2.2.2.1 (S2.more λ_ _ e=>QY _ e) (acO ..) ((tk.trans tk2).trans jc) q2.2.2.2
end
section
variable{c:Cx}{σ:Map}{K:bK}{a:Ss}{t:E}
def uP(J:Nat->aK->Map->Prop)(k:Nat)(ρ:aK)(σ:Map):Prop:=∃m,m<k/\J m ρ σ
theorem br.iX J n(h0:J n c.ρ σ)(step:∀k ρ σ,J k ρ σ->Ts (c.at ρ) t σ (oV (λσ=>Ex (c.at ρ) a σ ⟨uP J k,K.ret,uP J k⟩) (λσ=>K.ay ρ σ))):br c (.iX t a) σ K:=λA env sc φ₀ φ s z t' hh m S=>pz.inv m λx y o p m=>have m:=dG m;isNil.inv m.1▸by
 refine wpAny_While (codeAny_whileLoop (λk s'=>∃ρ σ φ,J k ρ σ/\Fr (c.at ρ) A env sc φ₀ φ/\ag c.B σ φ s'/\ax s.heap s'.heap) (λk s' y'=>az y' λρ σ φ q=>?_) n ⟨c.ρ,σ,φ,h0,t',S,.refl _⟩);refine RF (step k ρ σ q.1 A env sc φ s' x q.2.1.at' m.2.1 q.2.2.1) (λb s1 P=>?_) λe s1 P=>wZ (Fr.px (c:=c.at ρ) q.2.1 P);refine P.elim λσ1 k1 S1 tk=>?_;have tk1:=q.2.2.2.trans tk
 cases b with
 |false=>exact UY ⟨ρ,σ1,φ,k1.2 rfl,q.2.1,S1,tk1⟩
 |true=>
  refine RF (k1.1 rfl A env sc φ₀ φ s1 y q.2.1 hh m.2.2 S1) (λf s2 p=>?_) λe s2 p=>wZ p;have nx:bL (c.at ρ) A env sc φ₀ s1.heap (uP J k) s2->∃m,m<k/\∃ρ σ φ,J m ρ σ/\Fr (c.at ρ) A env sc φ₀ φ/\ag c.B σ φ s2/\ax s.heap s2.heap:=λp=>az p λρ3 σ3 φ3 p=>Q7 p.1 λm w=>⟨m,w.1,ρ3,σ3,φ3,w.2,p.2.1,p.2.2.1,tk1.trans p.2.2.2⟩
  cases f with
  |next=>exact nx p
  |cont=>exact nx p
  |brk=>exact p.elim
  |ret v=>exact az p λw σ φ p=>⟨w,σ,φ,p.1,p.2.1,p.2.2.1,p.2.2.2.1,tk1.trans p.2.2.2.2⟩
end
end
section
open _root_.PySem _root_.PySem.Calls PyProof.Rows
open _root_.PySem.AutoSeq1 (wpAny_loadPart')
theorem EL{M:Ub}{A:Rg}{s:QT}{E:QS->QT->Prop}{Q:Bool->QT->Prop}{a:Bool}(t:Q true s)(f:Q false s):wpAny M A (pure a) Q E s:=QV (a.casesOn (motive:=λa=>Q a s) f t)
theorem J4 l items n aj sl:
  Meets (Builtin.«enumerate.__new__» ⟨[.type "enumerate",.ref l],[]⟩) (λ_ R s=>s.heap.get? l=some {cls:=.type "tuple",dict:=aj,data:=.seq items n,slots:=sl}/\
   R (.ok (.ret (.ref (s.heap.push {cls:=.type "tuple_iterator",data:=.fields #[.ref l,.int 0 0]}).objs.size)))
    {s with heap:=(s.heap.push {cls:=.type "tuple_iterator",data:=.fields #[.ref l,.int 0 0]}).push {cls:=.type "enumerate",data:=.fields #[.none,.bool false,.ref s.heap.objs.size,UA 0,.none,.none]}}):=
 .of_wp λprog w A R s h=>by
  obtain ⟨hp,g,d,tk,os⟩:=s;obtain ⟨hl,h⟩:=h;have hsub:=sub_enumerate;have hL:Heap.IsTuple (Shared.heap ⟨hp,g,d,tk,os⟩) l items:=⟨_,hl,rfl,n,rfl⟩;wp_walk using VO hl;refine wpAny_stack_any λst=>EL ?_ ?_<;>(wp_walk using VO hl,Yp hL;exact ⟨_,rfl,h⟩)
section
variable{prog:RU}{w:Sz}{A:Rg}{E:QS->QT->Prop}{s:QT}
theorem N4{l:Q5}{items:Array QS}{Q:QS->QT->Prop}(hL:s.heap.IsTuple l items)
  (h:∀h',IsEnum h' (s.heap.objs.size+1) s.heap.objs.size 0 .none->h'.IsTupleIter s.heap.objs.size l 0->(∀b o,s.heap.get? b=some o->h'.get? b=some o)->Q (.ref (s.heap.objs.size+1)) {s with heap:=h'}):
  wpAny (model prog w) A (call (.type "enumerate") [.ref l]) Q E s:=by
 obtain ⟨⟨c,aj,dt,sl⟩,hl,hc,n,hd⟩:=hL
 replace hc:c=.type "tuple":=hc
 replace hd:dt=.seq items n:=hd
 subst hc hd
 refine callType_new F.called_enumerate (by decide) (F.typeCall_enumerate_1 _) (F.newCall_enumerate_1 _) (λobj=>F.args_object_init_2 obj _) F.entry_enumerate_new
  (J4 l items n aj sl) ⟨hl,?_⟩
 have hz:(s.heap.push {cls:=.type "tuple_iterator",data:=.fields #[.ref l,.int 0 0]}).objs.size=s.heap.objs.size+1:=XB ..;refine aa hz ?_
 have he:=by
  have:=RS (s.heap.push {cls:=.type "tuple_iterator",data:=.fields #[.ref l,.int 0 0]})
   (o:={cls:=.type "enumerate",data:=.fields #[.none,.bool false,.ref s.heap.objs.size,UA 0,.none,.none]}) rfl
  rw [hz] at this;exact this
 exact ⟨⟨_,he,rfl⟩,h _ he ⟨_,QY _ (RS _ rfl),rfl,rfl⟩ λb o x=>QY _ (QY _ x)⟩
theorem JA{it l:Q5}{i:Nat}{items}{x:QS}{Q:QS->QT->Prop}(hit:s.heap.IsTupleIter it l i)
  (hl:s.heap.IsTuple l items) (hx:items[i]?=some x)
  (hQ:∀h',h'.IsTupleIter it l (i+1)->Sr it s.heap h'->Q x {s with heap:=h'}):
  wpAny (model prog w) A (Wv (.ref it)) Q E s:=by
 obtain ⟨o,ho,hc,hd⟩:=id hit;obtain ⟨ol,hol,_,nl,hdl⟩:=hl
 refine QM (SR hit.typeIs TL
  (Se TL hit.typeIs V0 ?_ (VR _)))
 refine (?_:wpAny _ _ (field (.ref it) 0>>=_) _ _ s);refine QM (Tl ho hd (x:=.ref l) rfl ?_);refine aa (QP (show¬((RT l==Tq)=true) from SD)) ?_;refine QM (Tl ho hd (x:=.int i 0) rfl ?_);refine QM (Xw hol hdl ?_);simp only [TY,hx];refine QM (Wh ho hd (by simp) (QV ⟨x,rfl,QV (hQ _ ?_ (RW ..))⟩))
 exact ⟨_,RR _ ho (Vs (TJ hd _)),(Obj.cls_mapFields ..).trans hc,by
  rewrite [TJ hd];simp [UA]⟩
theorem JB{it l:Q5}{i:Nat}{items}{Q:QS->QT->Prop}(hh:A.handled=none)
  (hit:s.heap.IsTupleIter it l i) (hl:s.heap.IsTuple l items) (hx:items[i]?=none)
  (hE:∀h' e,acE it s.heap h'->(∃o,h'.get? e=some o/\o.cls=.type "StopIteration")->E (.ref e) {s with heap:=h'}):
  wpAny (model prog w) A (Wv (.ref it)) Q E s:=by
 obtain ⟨o,ho,hc,hd⟩:=id hit;obtain ⟨ol,hol,_,nl,hdl⟩:=hl
 refine QM (SR hit.typeIs TL
  (Se TL hit.typeIs V0 ?_ (VR _)))
 refine (?_:wpAny _ _ (field (.ref it) 0>>=_) _ _ s);refine QM (Tl ho hd (x:=.ref l) rfl ?_);refine aa (QP (show¬((RT l==Tq)=true) from SD)) ?_;refine QM (Tl ho hd (x:=.int i 0) rfl ?_);refine QM (Xw hol hdl ?_);simp only [TY,hx];refine QM (Uz (QM (Wh ho hd (by simp) ?_)));refine QM ?_;simp only [newExc,newTuple];refine QM (Sg ?_ (by size_fits));refine QM (WA (a:=Tq) (by first|rfl|(simp only [firstArgMember])) ?_);refine Sg ?_ (by size_fits);exact X4 hh (hE _ _ (((RW ..).extBut.push _).push _) ⟨_,RS _ rfl,rfl⟩)
theorem Nn{prog:RU}{w:Sz}{A:Rg}(hh:A.handled=none)(it l)(hne:l≠it) items:
  Draws prog w A it [it,l] items.size (λi v=>items[i]?=some v) (λi h=>h.IsTupleIter it l i/\h.IsTuple l items) where
 live:=λ_ _ st=>let⟨o,ho,_⟩:=st.1;⟨o,ho⟩
 frame:=λ_ _ _ st hk=>⟨(let⟨o,ho,r⟩:=st.1;⟨o,hk it (by simp) o ho,r⟩),(let⟨o,ho,r⟩:=st.2;⟨o,hk l (by simp) o ho,r⟩)⟩
 item:=λi s Q E hi st hQ=>by
  refine JA st.1 st.2 (x:=items[i]) (by simp [hi]) λh' hit' hs'=>?_;exact hQ _ h' s.toks (by simp [hi]) ⟨hit',st.2.extBut hs'.extBut hne⟩ hs'
 done:=λs Q E st hE=>JB hh st.1 st.2 (by simp) hE
end
end
section
open _root_.PySem _root_.PySem.Calls PyProof.Rows
open scoped Classical
section
variable{B:Bs}{σ φ η η':Map}{s:QT}{h':Rn}{tk:Nat}
theorem ag.z7(S:ag B σ (φ.join η) s)(sep:Sep η φ)(k:∀b o,η b=none->s.heap.get? b=some o->h'.get? b=some o)(dh:∀b,η' b≠none->η b≠none)(cl:∀b d,η' b=some d->B.aW h' b d):ag B σ (φ.join η') {s with heap:=h',toks:=tk}/\ax s.heap h':=
 have r:∀{b d},η b=some d->(φ.join η) b=some d:=λ{b d} e=>(bf (sep b (e▸Q1 _))).trans e;have out:=λ{b} n=>(Rw.mp n).elim λd e=>S.rel.out b d ((bf (S.dm (r e))).trans (r e));have zero:∀{b},(η b≠none->False)->η b=none:=λn=>RY n;have tk:=λb o e q=>⟨o.slots,k b o (zero λn=>(Rw.mp n).elim λd g=>q ((S.r (r g)).obj e).1) e⟩
 ⟨⟨S.rel.to (λb o e=>k b o (zero λn=>nomatch(out n).symm.trans e) (S.rel.base b o e)) tk λb d e=>fX e (λl=>.inl ⟨bh l,λo=>k b o (zero λn=>(Rw.mp n).elim λd g=>nomatch(S.dm (r g)).symm.trans l)⟩)
   λn e=>fX e (λl=>.inl ⟨(bf n).trans (bh l),λo=>k b o (zero λn=>nomatch(sep b n).symm.trans l)⟩) λ_ g=>.inr ⟨cl b d g,out (dh b (g▸Q1 _))⟩,
  λb q=>RY λn=>q (join_none (Q9.mpr λd g=>n (S.dm (bh g))) (RY λm=>(Rw.mp (dh b m)).elim λd g=>n (S.dm (r g))))⟩,tk⟩
end
noncomputable def ot:Nat->List QI->List V
 |_,[]=>[]
 |k,d::ds=>.d (.tuple [.int k,d])::ot (k+1) ds
theorem Df:∀{xs:List QI}{k i:Nat}{x:V},(ot k xs)[i]?=some x->∃d,xs[i]?=some d/\x=.d (.tuple [.int ((k+i:Nat):Int),d])
 |_::_,_,0,_,h=>⟨_,rfl,(QK h).symm⟩
 |_::ys,k,i+1,_,h=>(Df (i:=i) h).imp λd y=>⟨y.1,y.2.trans (by(rewrite [Un,SO];rfl))⟩
theorem De:∀(xs:List QI) k,(ot k xs).length=xs.length
 |[],_=>rfl
 |_::ys,k=>QQ TX (De ys (k+1))
noncomputable def jR(h:Rn)(e it:Q5):Map:=λb=>if b=e\/b=it then(h.get? b).map .raw else none
section
variable{B:Bs}{σ φ:Map}{s:QT}{h h':Rn}{e it t b:Q5}{i:Nat}{o:Obj}
theorem zc(n:b=e\/b=it)(g:h.get? b=some o):jR h e it b=some (.raw o):=(QR n).trans (QQ (U0 Cell.raw) g)
theorem i0{d:Cell}(g:jR h e it b=some d):(b=e\/b=it)/\∃o,h.get? b=some o/\d=.raw o:=
 have n:=RY λn=>nomatch(QP n).symm.trans g
 ⟨n,(RH.mp ((QR n).symm.trans g)).imp λo y=>⟨y.1,y.2.symm⟩⟩
def gD(e it t:Q5)(i:Nat)(h:Rn):Prop:=(∃old,IsEnum h e it i old)/\h.IsTupleIter it t i
theorem gD.cls(x:gD e it t i h)(n:b=e\/b=it):∃o,h.get? b=some o/\d0 o:=n.elim (λq=>x.1.elim λ_ y=>⟨_,q▸y,eV rfl⟩) λq=>x.2.imp λ_ y=>⟨q▸y.1,eV y.2.2⟩
theorem gD.to(x:gD e it t i h)(k:∀b,b=e\/b=it->∀o,h.get? b=some o->h'.get? b=some o):gD e it t i h':=⟨x.1.imp λ_ y=>k e (.inl rfl) _ y,x.2.imp λo y=>⟨k it (.inr rfl) o y.1,y.2⟩⟩
theorem gD.now(x:gD e it t i h)(sep:Sep (jR h e it) φ)(S:ag B σ (φ.join (jR h e it)) s):gD e it t i s.heap:=x.to λb n o g=>lC S sep (zc n g)
end
section
variable{B:Bs}{A:Rg}{e it t:Q5}{xs:List QI}{us:Array QS}
theorem Jc{i:Nat}{d:QI}{j:Int}(h:aP (.tuple xs)=true)(g:xs[i]?=some d):aP (.tuple [.int j,d])=true:=sO.mpr ⟨(by decide:2<=1000),λx m=>(QZ.mp m).elim (λq=>q▸⟨rfl,by rewrite [Ug];exact Rr _⟩) λm=>QW.mp m▸(sO.mp h).2 d (UC g)⟩
theorem Nd(hh:A.handled=none)(ok:aP (.tuple xs)=true)(hei:e≠it)(het:e≠t)(hti:t≠it) elts k pos:Walks B A (.Tuple elts k pos) e (λh=>h.IsTuple t us/\Sn h us.toList xs []) (λ_=>True) (ot 0 xs) λi η=>∃h,gD e it t i h/\η=jR h e it:=by
 have Wk:=WalksT.enumerateD (Nn (prog:=B.prog) (w:=B.w) (A:=A.in1) hh it t hti us) e hei (by simp [hei,het]) (by simp);have mem:∀{b:Q5},b=e\/b=it->b∈[e,it]:=λn=>n.elim (λq=>q▸.head _) λq=>q▸.tail _ (.head _)
 have d5:∀{h:Rn}{i:Nat}{b:Q5},gD e it t i h->jR h e it b=none->b∉[e,it]:=λ{h i b} x n m=>
  have q:=(QZ.mp m).imp_right λm=>QW.mp m
  (x.cls q).elim λo g=>nomatch(zc q g.1).symm.trans n
 refine ⟨λtk r=>⟨r.1.elim λo y=>(tk t o y.1 λc=>c y.2.1 ⟨us,y.2.2⟩).elim λsl g=>⟨_,g,y.2⟩,sg tk r.2 rfl (eK ok).2⟩,?_,?_,λx b d g=>x.elim λh y=>(i0 (y.2▸g)).2.imp λo z=>z.2⟩
 ·intro σ φ η s i x E sep r _ S hi hx
  obtain ⟨h,hi,rfl⟩:=hi;have h1:=hi.now sep S;obtain ⟨d,hd,rfl⟩:=Df hx;obtain ⟨u,hu,ru⟩:=readsAll_get r.2 rfl i d hd;have hu':=by simpa using hu
  refine Wk.item i s _ _ (TK.mp hu').1 ⟨h1.1,h1.2,r.1⟩ λT vals hp tk hP hle hT hM kp=>⟨.ref T,rfl,?_⟩;obtain ⟨tt,uu,hP1,rfl⟩:=hP;obtain rfl:u=uu:=QK (hu'.symm.trans hP1);refine Wk.go elts k pos i T {s with heap:=hp,toks:=tk} _ _ hM λh2 hst kp2=>?_;have x2:gD e it t (i+1) h2:=⟨hst.1,hst.2.1⟩;have S2:=S.z7 (tk:=tk) sep (λb o n g=>kp2 b o (d5 hi n) (kp b o (d5 hi n) g)) (λb n q=>(Rw.mp n).elim λd g=>d5 hi q (mem (i0 g).1)) λb d g=>(i0 g).2.elim λo y=>y.2▸hJ y.1 ((x2.cls (i0 g).1).elim λo' z=>QK (z.1.symm.trans y.1)▸z.2);obtain ⟨oT,eT,cT,nT,dT⟩:=hT;refine ⟨jR h2 e it,⟨h2,x2,rfl⟩,λb n q=>(Rw.mp n).elim λd g=>d5 hi q (mem (i0 g).1),⟨Jc ok hd,?_⟩,S2.1,S2.2⟩;refine aa (show((0+i:Nat):Int)=i from QQ Nat.cast (Sv i)) ?_;exact .tuple (kp2 T oT (Wk.apart i T hp hM) eT) cT dT (.cons (.int _ _) (.cons (pL S2.2 ru rfl (eM (sP ok hd))) .nil))
 ·intro σ φ η s E sep r _ S hi
  obtain ⟨h,hi,rfl⟩:=hi;have h1:=hi.now sep S;have len:=(De xs 0).trans ((fV r.2).symm.trans RG);rw [len] at h1;refine Wk.done s _ E ⟨h1.1,h1.2,r.1⟩ λh' tk kp=>⟨rfl,?_⟩;have S2:=S.z7 (tk:=tk) sep (λb o n g=>kp b o (d5 hi n) g) (λb n=>absurd rfl n) λb d g=>aX g
  have e0:φ.join (λ_=>none)=φ:=funext λb=>by cases q:φ b with
   |none=>exact join_none q rfl
   |some d=>exact bh q
  exact ⟨e0▸S2.1,S2.2⟩
end
section
variable{c:Cx}{σ:Map}{K:bK}{a:Ss}{e:E}{x y:String}
def Qj(c:Cx)(x y:String)(a:Ss)(K:bK)(v:V)(σ:Map):Prop:=∃xs,v=.d (.tuple xs)/\Turn c [x,y] a (λ_=>True) K (ot 0 xs) c.ρ σ
theorem br.js(hk:∀z∈[x,y],c.κ.lookup z=none)(h:Ev c e σ (Qj c x y a K)):br c (.js x y e a) σ K:=λA env sc φ₀ φ s z t hh m S=>eU.inv m λtg it b o p m=>have m:=cV m;have gt:jz sc [x,y] tg:=gH.inv m.2.1;gG.inv m.2.2.1 λfn ls q m' n=>a8.inv n λl n=>isNil.inv m.1▸by
 obtain ⟨q',rfl⟩:=m'.1.1;refine Zm (Ux (ig S t.at' m' (c.B.look "enumerate" _ (by decide+kernel) c.B.Dg) ?_)) (λ_=>rfl);rewrite [fS (es:=.cons e .nil) (.one n)];refine oB (.type "enumerate") (Uj (t.ev h n S λu s1 v σ1 q r S1 tk=>U7 ⟨⟨_,S1.rel⟩,Q7 q λxs q=>?_⟩));have r:=(q.1▸r:ak s1.heap (.d (.tuple xs)) u);refine r.rd.elim λtA w=>w.elim λus w=>w.1▸N4 w.2.1 λh' hE hI kp=>wpAny_pyIter_enum hE ?_;have f1:s1.heap.get? s1.heap.objs.size=none:=Ru (Rl _);have f2:s1.heap.get? (s1.heap.objs.size+1)=none:=Ru (RI _);have lt:=w.2.1.elim λo g=>Vi g.1;have fr:∀{b},b=s1.heap.objs.size+1\/b=s1.heap.objs.size->s1.heap.get? b=none:=λn=>n.elim (λq=>q▸f2) λq=>q▸f1;have X:gD (s1.heap.objs.size+1) s1.heap.objs.size tA 0 h':=⟨⟨_,hE⟩,hI⟩;have sep:Sep (jR h' (s1.heap.objs.size+1) s1.heap.objs.size) φ:=λb n=>(Rw.mp n).elim λd g=>(S1.fresh (fr (i0 g).1)).2;have tk2:ax s1.heap h':=.of kp
 exact gt.elim (λy=>y.elim λ_ y=>nomatch y.1) λy=>y.elim λelts y=>ao y.1 λk p g=>CD (g▸Nd hh r.1 (Nat.succ_ne_self _) (abE (Vk lt)) (SP lt) elts k p) hh gt hk m.2.2.2
  ⟨0,c.ρ,σ1,_,_,rfl,Rr _,t.under sep,S1.frame kp λb d g=>fX g .inl λn g=>.inr ⟨fr (i0 g).1,(i0 g).2.elim λo y=>y.2▸hJ y.1 ((X.cls (i0 g).1).elim λo' z=>QK (z.1.symm.trans y.1)▸z.2)⟩,⟨h',X,rfl⟩,
   ⟨w.2.1.elim λo g=>⟨o,kp _ _ g.1,g.2⟩,sg tk2 w.2.2 rfl (eK r.1).2⟩,tk.trans tk2,Z7▸q.2,λb n=>Q9.mpr λd g=>nomatch(t.sub b d g).symm.trans (sep b n)⟩
end
structure jI(sc:RE) x(inner:RE):Prop where
 kind:inner.kind=.function
 dot:inner.names.lookup (".0":Str)=some .local
 own:inner.names.lookup x=some .local
 all:∀n k,(n,k)∈inner.names->(k=.local/\(n=(".0":Str)\/n=x))\/(k=.free/\sc.names.lookup n=some .cell)\/k=.globalImplicit
theorem DB{sc:RE}{x:Str}{inner:RE}(h:mr sc x inner=true):jI sc x inner:=by
 have a:=ae h;have b:=ae a.1;have d:=ae b.1;have e:=ae d.1;refine ⟨eq_of_beq (ae (ae e.1).1).1,eq_of_beq e.2,eq_of_beq d.2,λn k hm=>?_⟩;have h:=Rp.mp a.2 (n,k) hm
 cases k with
 |«local»=>exact .inl ⟨rfl,(S9.mp h).imp Q6.mp Q6.mp⟩
 |free=>exact .inr (.inl ⟨rfl,Q6.mp h⟩)
 |globalImplicit=>exact .inr (.inr rfl)
 |_=>exact ff h
section
variable{sc inner:RE}{x:Str}{env:Env}
theorem jI.names(c:jI sc x inner):∀p∈inner.names,p.2=.local->inner.names.lookup p.1=some .local:=λp hp hk=>
 (c.all p.1 p.2 hp).elim (λe=>e.2.elim (λe=>e▸c.dot) λe=>e▸c.own) λe=>e.elim (λe=>nomatch hk.symm.trans e.1) λe=>nomatch hk.symm.trans e
theorem jI.AN(c:jI sc x inner):∀p∈inner.names,p.2≠.cell:=λp hp hk=>
 (c.all p.1 p.2 hp).elim (λe=>nomatch hk.symm.trans e.1) λe=>e.elim (λe=>nomatch hk.symm.trans e.1) λe=>nomatch hk.symm.trans e
theorem NT{names:List (Str×WZ)}:∀{acc:List (Str×Q5)},(∀n,(n,SW)∈names->∃a,env.cells.lookup n=some a)->(∀n a,acc.lookup n=some a->env.cells.lookup n=some a)->
  ∃cl,(forIn names acc λ(x:Str×WZ) cs=>(do
   match x with
   |(name,kind)=>if kind==.free then do let a←cellOf env name;pure (TT ((name,a)::cs)) else pure (TT cs):Sem (ForInStep (List (Str×Q5)))))=pure cl/\
   (∀n a,cl.lookup n=some a->env.cells.lookup n=some a)/\∀n,((n,SW)∈names\/∃a,acc.lookup n=some a)->∃a,cl.lookup n=some a:=by
 induction names with
 |nil=>exact λ{acc} _ g=>⟨acc,rfl,g,λn e=>e.elim (λe=>nomatch e) id⟩
 |cons p r ih=>
  intro acc h g;obtain ⟨m,k⟩:=p;rewrite [Zy];have h':=λn e=>h n (.tail _ e)
  by_cases hk:k=.free
  ·subst hk
   refine (h m (.head _)).elim λa ha=>?_;have e1:cellOf env m=pure a:=by unfold cellOf;exact aa ha rfl
   simp only [beq_self_eq_true,if_true,e1,pure_bind]
   have lc:∀n,acQ n ((m,a)::acc)=if n=m then some a else acc.lookup n:=λn=>by
    refine aa Rx ?_;by_cases q:n=m
    ·exact aa (QR q) (aa (Q6.mpr q) rfl)
    ·exact aa (QP q) (aa (Q3.mpr q) rfl)
   exact (ih h' λn b e=>if q:n=m then(by rw [lc,QR q] at e;exact q▸ha.trans e) else g n b (by rw [lc,QP q] at e;exact e)).imp λcl y=>⟨y.1,y.2.1,λn e=>y.2.2 n (if q:n=m then .inr ⟨a,(lc n).trans (QR q)⟩ else e.imp (λe=>(QZ.mp e).elim (λe=>absurd (Tx e).1 q) id) λe=>e.imp λb e=>(lc n).trans ((QP q).trans e))⟩
  ·have hb:=Q3.mpr hk
   simp only [hb,Bool.false_eq_true,if_false,pure_bind];exact (ih h' g).imp λcl y=>⟨y.1,y.2.1,λn e=>y.2.2 n (e.imp_left λe=>(QZ.mp e).elim (λe=>absurd (Tx e).2.symm hk) id)⟩
theorem DO(h:∀n,(n,SW)∈inner.names->∃a,env.cells.lookup n=some a):∃cl,closureFor inner env=pure cl/\∀n,(n,SW)∈inner.names->∃a,cl.lookup n=some a/\env.cells.lookup n=some a:=(NT (acc:=[]) h λ_ _ e=>aX e).imp λcl y=>⟨(show(forIn inner.names [] _>>=pure)=_ from(bind_pure _).trans y.1),λn e=>(y.2.2 n (.inl e)).imp λa z=>⟨z,y.2.1 n a z⟩⟩
theorem z3{names:List (Str×WZ)}{y:Str}{k:WZ}:names.lookup y=some k->
  (names.map λ(n,k)=>if(k==SW&&env.scope.kind==.function&&env.kindOf n==some .cell) then(n,aax) else(n,k)).lookup y=some (if(k==SW&&env.scope.kind==.function&&env.kindOf y==some .cell) then .cell else k):=
 names.rec (λe=>aX e) λp r ih h=>by
  obtain ⟨n,k'⟩:=p;rw [Rx] at h;refine (?_:acQ y ((if(k'==SW&&env.scope.kind==.function&&env.kindOf n==some .cell)=true then(n,aax) else(n,k'))::_)=_)
  (rewrite [←apply_ite (Prod.mk n)];refine aa Rx ?_)
  cases hx:y==n with
  |true=>rw [hx] at h;exact QK h▸Q6.mp hx▸rfl
  |false=>rw [hx] at h;exact ih h
end
noncomputable def Cx.el(c:Cx)(x:String)(v:V):Cx:=⟨c.B,c.n,c.h,(x,v)::c.ρ,none,[],λ_ _ _=>False⟩
theorem NK{c:Cx}{A:Rg}{env:Env}{sc inner:RE}{φ ψ:Map}{x:String}{v:V}{cl:List (Str×Q5)}{C:Q5}{l:aK}(t:At c A env sc φ)(cs:jI sc (QJ x) inner)(hcl:∀n,(n,SW)∈inner.names->∃a,cl.lookup n=some a/\env.cells.lookup n=some a)(w:Sub φ ψ)(hC:ψ C=some (.bo l))(hl:l.lookup x=some v):
  At (c.el x v) A (XD inner cl C env) inner ψ:=
 ⟨(t.more w).fe,t.dep,t.fy,t.hd,cs.kind,t.fN,t.bN,λn e=>z3 (k:=.globalImplicit) (by
   unfold nS at e;generalize inner.names.lookup n=r at e
   cases r with
   |none=>exact ff e
   |some k=>cases k<;>first|rfl|exact ff e),λn e=>absurd rfl (cs.AN _ (mem_lookup e)),λy u i e=>
  if q:y=x then by subst q;exact QK (lookup_cons_self.symm.trans e)▸.inl ⟨XE cs.own,l,hC,hl⟩ else
   have i:=ae i;have nd:=λe=>ff ((SZ _▸i.1).symm.trans (Q6.mpr e))
   have fr:inner.names.lookup (QJ y)=some .free:=by
    have i:=i.2;generalize hk:inner.names.lookup (QJ y)=r at i
    cases r with
    |none=>exact ff i
    |some k=>exact (cs.all _ k (mem_lookup hk)).elim (λe=>e.2.elim (λe=>absurd e nd) λe=>absurd (lH e) q) λe=>e.elim (λe=>e.1▸rfl) λe=>by subst e;exact ff i
   have sc':=(cs.all _ _ (mem_lookup fr)).elim (λe=>nomatch e.1) λe=>e.elim And.right λe=>nomatch e;have V:=(t.var y u (by unfold jl;refine aa sc' (aa i.1 ?_);rfl) ((fG q).symm.trans e)).more w;have ck:=(t.bj _ sc').1
   (hcl _ (mem_lookup fr)).elim λa ha=>.inr ⟨.inl (by have r:=z3 (env:=env) fr;rw [QR (by refine aa ck (aa t.fn ?_);rfl)] at r;exact r),V.elim (λz=>nomatch z.1.symm.trans ck) λz=>z.2.elim λb z=>⟨b,(QK (z.1.symm.trans ha.2))▸ha.1,z.2⟩⟩,λ_ _ _ e=>nomatch e⟩
theorem m5{σ:Map}{a b:Q5}{c d:Cell}(n:a≠b):(σ.put a c).put b d=(σ.put b d).put a c:=funext λx=>if e:x=b then(QR e).trans ((QP (e▸n.symm)).trans (QR e)).symm else(QP e).trans (if g:x=a then(QR g).trans (QR g).symm else(QP g).trans ((QP g).trans (QP e)).symm)
theorem Px.no{B:Bs}{φ:Map}{ph:Option QS->Prop}{e:QS}{s:QT}{G:Prop}(x:Px B φ ph (λ_ _ _=>False) e s):G:=cm x λ_ _ _ _ _ x=>x.1.elim
theorem PH{B:Bs}{σ φ:Map}{s:QT}{A:Rg}{a:Q5}{l:List V}{v:V}{w:QS}{E:QS->QT->Prop}{Q:QS->QT->Prop}(S:ag B σ φ s)(e:φ a=some (.lst l))(sz:l.length<ah)(r:ak s.heap v w)(q:∀s',ag B σ (φ.put a (.lst (l++[v]))) s'->ax s.heap s'.heap->Q .none s'):wpAny B.M A (call (.builtin "list.append") [.ref a,w]) Q E s:=
 (S.r e).elim λo g=>ao g.2.2.2.2 λus n z=>Se Zd ⟨o,g.1,g.2.2.1⟩ YO
  (show wpAny _ _ (updateSeq a (·.push w)>>=λ_=>Ze .none) _ _ s from QM (ZB (hz:=ij sz (jv z.2)) (_hz':=(ZC _)▸QU (ij sz (jv z.2))) g.1 z.1 (QV ⟨.none,rfl,
   (Zx z.1 (·.push w)).elim λn' hd'=>have hs:=RW s.heap a (Xc (·.push w));q _ (S.jb e hs λtk=>wY (RR _ g.1 (Ym hd')) ((ZU ..).trans g.2.2.1) ((A8 z.1 _).trans g.2.2.2.1) hd' ((Uw:(us.push w).toList=_)▸(jw tk z.2).append (.cons (r.mono tk) .nil))) (S.k8 e hs)⟩))) (Zf _ _)
abbrev kJ:=Cx->Map->(Bool->Map->Prop)->Prop
def oX(c:Cx)(x:String)(T:kJ)(elt:E)(P:Map->Prop)(Q:List V->Map->Prop)(l:List V):List V->Map->Prop:=l.rec (λacc σ=>P σ/\Q acc σ) λv _ f acc σ=>P σ/\T (c.el x v) σ (oV (λσ=>Ev (c.el x v) elt σ λu σ=>f (acc++[u]) σ) (λσ=>f acc σ))
def mE(inner:RE)(ifs:List QL)(T:kJ):Prop:=∀(c:Cx) A env(φ σ) s Q,At c A env inner φ->ag c.B σ φ s->T c σ Q->
 wpAny c.B.M A (forIn ifs true λz r=>if r=true then do let ok←isTrue z env (eval z env);pure (TT ok) else pure (TT r)) (gu c.B φ s.heap Q) (Px c.B φ (atAny env) c.X) s
theorem zj{inner:RE}:mE inner [] λ_ σ Q=>Q true σ:=λc A env φ σ s Q t S q=>wpAny_tests_nil ⟨σ,q,S,.refl _⟩
theorem zi{inner:RE}{e:E}{z:QL}(m:bq inner e z):mE inner [z] λc σ Q=>Ts c e σ Q:=λc A env φ σ s Q t S q=>wpAny_tests_one (q A env inner φ s z t m S)
section
variable{c:Cx}{A:Rg}{env:Env}{sc inner:RE}{φ:Map}{h₀:Rn}{x:String}{T:kJ}{elt:E}{P:Map->Prop}{Q:List V->Map->Prop}{l:List V}{I D C:Q5}{R:Rn->Prop}{It:Nat->Obj->Prop}{s:QT}
noncomputable def two(φ:Map)(D C:Q5)(acc:List V)(f:aK):Map:=(φ.put D (.lst acc)).put C (.bo f)
def yV(c:Cx)(φ:Map)(h₀:Rn)(I D C:Q5)(R:Rn->Prop)(l:List V)(It:Nat->Obj->Prop)(G:List V->List V->Map->Prop)(k:Nat)(s:QT):Prop:=∃i acc σ f o,k=l.length+1 -i/\i<=l.length/\acc.length<=i/\ag c.B σ ((two φ D C acc f).put I (.raw o)) s/\It i o/\R s.heap/\ax h₀ s.heap/\G (l.drop i) acc σ
def Ey(c:Cx)(φ:Map)(h₀:Rn)(D C:Q5)(Q:List V->Map->Prop)(r:W6)(s:QT):Prop:=match r with
 |.ok _=>∃acc σ f,Q acc σ/\ag c.B σ (two φ D C acc f) s/\ax h₀ s.heap
 |.error _=>False
section
variable{acc acc':List V}{f f':aK}{o o':Obj}
theorem Fo(nD:φ D=none)(nC:φ C=none):Sub φ (two φ D C acc f):=λb d e=>(Map.aO λq=>nomatch(q▸e).symm.trans nC).trans (Sub.put nD b d e)
theorem zb(nI:φ I=none)(ID:I≠D)(IC:I≠C):two φ D C acc f I=none:=(Map.aO IC).trans ((Map.aO ID).trans nI)
theorem rH(IC:I≠C):((two φ D C acc f).put I (.raw o)) C=some (.bo f):=(Map.aO IC.symm).trans Map.a7
theorem FE(DC:D≠C)(ID:I≠D):((two φ D C acc f).put I (.raw o)) D=some (.lst acc):=(Map.aO ID.symm).trans ((Map.aO DC).trans Map.a7)
theorem Fu(IC:I≠C):((two φ D C acc f).put I (.raw o)).put C (.bo f')=(two φ D C acc f').put I (.raw o):=(m5 IC).trans (QQ (λm:Map=>m.put I _) lD)
theorem Ft(DC:D≠C)(ID:I≠D):((two φ D C acc f).put I (.raw o)).put D (.lst acc')=(two φ D C acc' f).put I (.raw o):=(m5 ID).trans (QQ (λm:Map=>m.put I _) ((m5 DC.symm).trans (QQ (λm:Map=>m.put C _) lD)))
end
theorem NI{cl:List (Str×Q5)}{el:QL}{ifs:List QL}{px:Pos}{N:QT->Prop}{E:QS->QT->Prop}{acc:List V}{f:aK}{o:Obj}{v:V}{w:QS}{σ:Map}{F:List V->Map->Prop}(t:At c A env sc φ)(cs:jI sc (QJ x) inner)(hcl:∀n,(n,SW)∈inner.names->∃a,cl.lookup n=some a/\env.cells.lookup n=some a)
  (nD:φ D=none) (nC:φ C=none) (nI:φ I=none) (DC:D≠C) (ID:I≠D) (IC:I≠C) (me:bq inner elt el) (ht:mE inner ifs T) (sz:acc.length<ah) (S:ag c.B σ ((two φ D C acc f).put I (.raw o)) s) (r:ak s.heap v w) (g:T (c.el x v) σ (oV (λσ=>Ev (c.el x v) elt σ λu σ=>F (acc++[u]) σ) (λσ=>F acc σ)))
  (n0:∀{σ' s'},ag c.B σ' ((two φ D C acc ((x,v)::f)).put I (.raw o)) s'->ax s.heap s'.heap->F acc σ'->N s') (n1:∀{u σ' s'},ag c.B σ' ((two φ D C (acc++[u]) ((x,v)::f)).put I (.raw o)) s'->ax s.heap s'.heap->F (acc++[u]) σ'->N s'):
  wpAny c.B.M A (assign (.Name (QJ x) px) (XD inner cl C env) w) (λ_ s₂=>wpAny c.B.M A (forIn ifs true λz r=>if r=true then do let ok←isTrue z (XD inner cl C env) (eval z (XD inner cl C env));pure (TT ok) else pure (TT r))
   (λok s₃=>if ok=true then wpAny c.B.M A (eval el (XD inner cl C env)) (λu s₄=>wpAny c.B.M A (call (.builtin "list.append") [.ref D,u]) (λ_ s₅=>N s₅) E s₄) E s₃ else N s₃) E s₂) E s:=by
 refine Vh ((S.r (rH IC)).bo.elim λm q=>Xr (XE cs.own) q.1 (λh2 hn hs=>?_) (by refine aa cs.kind ?_;rfl));have tk2:=S.k8 (rH IC) hs;have S2:=Fu IC▸S.jb (d:=s.drawn) (t:=s.toks+1) (rH IC) hs λtk=>Ns.cell hn (q.2.cons tk r);have t2:=NK (ψ:=(two φ D C acc ((x,v)::f)).put I (.raw o)) t cs hcl (λb d e=>Sub.put (zb nI ID IC) b d (Fo nD nC b d e)) (rH IC) lookup_cons_self;refine RF (ht (c.el x v) A _ _ σ _ _ t2 S2 g) (λb s3 p=>p.elim λσ3 q3 S3 tk3=>?_) λe s3 p=>Px.no p
 cases b with
 |false=>exact n0 S3 (tk2.trans tk3) (q3.2 rfl)
 |true=>exact RF (q3.1 rfl A _ inner _ s3 el t2 me S3) (λu s4 p=>p.elim λv4 σ4 q4 r4 S4 tk4=>PH S4 (FE DC ID) sz r4 λs5 S5 tk5=>n1 (Ft DC ID▸S5) (tk2.trans (tk3.trans (tk4.trans tk5))) q4) λe s3 p=>Px.no p
theorem NJ{cl:List (Str×Q5)}{el iter:QL}{ifs:List QL}{px pos:Pos}(W:Walk c.B A I R P l It)(sz:l.length<ah)(t:At c A env sc φ)(cs:jI sc (QJ x) inner)(hcl:∀n,(n,SW)∈inner.names->∃a,cl.lookup n=some a/\env.cells.lookup n=some a)
  (nD:φ D=none) (nC:φ C=none) (nI:φ I=none) (DC:D≠C) (ID:I≠D) (IC:I≠C) (me:bq inner elt el) (ht:mE inner ifs T) {k:Nat} (h:yV c φ h₀ I D C R l It (oX c x T elt P Q) k s):
  XX c.B.M A (.compLoop (.ListComp el [⟨.Name (QJ x) px,iter,ifs,0⟩] inner pos) 0 (.ref I) (.ref D) (XD inner cl C env)) (Ey c φ h₀ D C Q) s:=by
 refine codeAny_compLoop_tests (yV c φ h₀ I D C R l It (oX c x T elt P Q)) (λk s y=>cm y λi acc σ f o y=>?_) k h;have T':=y.2.2.2.2.2.2.2;generalize hx:l[i]?=r
 cases r with
 |none=>
  have ei:=VQ y.2.1 (UL.mp hx);have T':=Zl (l:=l)▸ei▸T';exact aG (W.fin (zb nI ID IC) y.2.2.2.2.2.1 T'.1 y.2.2.2.1 (ei▸y.2.2.2.2.1)) (λr s1 z=>z.1▸⟨acc,σ,f,T'.2,z.2.1,y.2.2.2.2.2.2.1.trans z.2.2⟩)
 |some v=>
  have lt:=(Sl.mp hx).1;rw [Wu lt,(Sl.mp hx).2] at T'
  have nx:∀{acc':List V}{σ':Map}{s':QT}{o'},acc'.length<=i+1->It (i+1) o'->ag c.B σ' ((two φ D C acc' ((x,v)::f)).put I (.raw o')) s'->ax s.heap s'.heap->oX c x T elt P Q (l.drop (i+1)) acc' σ'->∃m,m<k/\yV c φ h₀ I D C R l It (oX c x T elt P Q) m s':=λln it S tk g=>
   ⟨l.length+1 -(i+1),y.1.symm▸X6 (Vk lt) (SU i),i+1,_,_,_,_,rfl,lt,ln,S,it,W.mono tk y.2.2.2.2.2.1,y.2.2.2.2.2.2.1.trans tk,g⟩
  exact aG (W.item y.2.2.2.2.2.1 T'.1 y.2.2.2.1 y.2.2.2.2.1 hx) (λr s1 z=>ao z λw o' z=>z.1▸NI t cs hcl nD nC nI DC ID IC me ht (QO y.2.2.1 (Rt lt sz)) z.2.2.2.1 z.2.1 T'.2
   (λS tk g=>nx (RQ y.2.2.1) z.2.2.1 S (z.2.2.2.2.trans tk) g) λS tk g=>nx (aa Q2 (QU y.2.2.1)) z.2.2.1 S (z.2.2.2.2.trans tk) g)
end
theorem Ls{prog:RU}{w:Sz}{A:Rg}{E:QS->QT->Prop}{s:QT}{I:Q5}{u:QS}{i n:Nat}{Q:QS->QT->Prop}(h:Q (.ref I) s):∀{k:Nat},rz s.heap k I u i n->wpAny (model prog w) A (pyIter (.ref I)) Q E s
 |0,x=>x.elim λ_ y=>wpAny_pyIter_tupleiter y.2 h
 |1,x=>x.elim λ_ y=>wpAny_pyIter_listiter y.2 h
 |_+2,x=>x.elim λ_ y=>wpAny_pyIter_keyiter y.2 h
theorem yy{σ:Map}{a b:Q5}{c:Cell}(h:σ a=some c)(n:σ b=none):a≠b:=λq=>nomatch(q▸h).symm.trans n
def jD(c:Cx)(x:String)(T:kJ)(elt:E)(Q:List V->Map->Prop)(v:V)(σ:Map):Prop:=∃k l,Src c.B σ k v l/\oX c x T elt (λσ=>Src c.B σ k v l) Q l [] σ
section
variable{c:Cx}{A:Rg}{env:Env}{sc inner:RE}{φ σ:Map}{x:String}{T:kJ}{it elt:E}{Q:List V->Map->Prop}{s:QT}
theorem Src.lim{B:Bs}{k:Nat}{v:V}{l:List V}{h:Rn}{u:QS}(K:Src B σ k v l):ak h v u->l.length<ah:=@Src.casesOn B σ (λ_ v l _=>ak h v u->l.length<ah) k v l K (λr=>by rewrite [QX];exact QO (eK r.1).1 (by decide)) (λ_ e _=>e) λ_ e _=>by rewrite [QX];exact e
theorem DA{cl:List (Str×Q5)}{el iter:QL}{ifs:List QL}{px pos:Pos}{F:QS->Q5->W6->QT->Prop}(hh:A.handled=none)(t:At c A env sc φ)(S:ag c.B σ φ s)(cs:jI sc (QJ x) inner)(hcl:∀n,(n,SW)∈inner.names->∃a,cl.lookup n=some a/\env.cells.lookup n=some a)
  (mi:bq sc it iter) (me:bq inner elt el) (ht:mE inner ifs T) (h:Ev c it σ (jD c x T elt Q)) (k:∀D C r s',D≠C->φ D=none->φ C=none->Ey c φ s.heap D C Q r s'->F (.ref D) C r s'):
  wpAny c.B.M A (eval iter env) (λxv s₁=>wpAny c.B.M A (pyIter xv) (λiv s₂=>wpAny c.B.M A (newList []) (λacc s₃=>wpAny c.B.M A (Z8 inner env.globals cl [] env.qual none .none (some env)) (λcenv s₄=>
   XX c.B.M A (.compStart (.ListComp el [⟨.Name (QJ x) px,iter,ifs,0⟩] inner pos) 0 iv acc {cenv with scope:=relabel inner env}) (F acc cenv.locals) s₄) (Px c.B φ (atAny env) c.X) s₃) (Px c.B φ (atAny env) c.X) s₂) (Px c.B φ (atAny env) c.X) s₁) (Px c.B φ (atAny env) c.X) s:=by
 refine aG (h A env sc φ s iter t mi S) (λu s1 p=>p.elim λv σ1 q r S1 tk1=>ao q λk' l q=>aG (B1 S1 q.1 r) (λu2 s2 y=>ao y λI o y=>y.1▸?_));have S2:=y.2.2.2.1;refine Sg (wpAny_newFunctionEnv cs.AN (by intro y hy;simp at hy) (λh1 hns hsb=>?_) cs.kind);have fD:s2.heap.get? s2.heap.objs.size=none:=Ru (Rl _);have nD:=(S2.fresh fD).2;have S3:=S2.p9 (d:=s2.drawn) (t:=s2.toks) (λ_ _ e=>QY {cls:=.type "list",dict:=none,data:=.seq ([]:List QS).toArray} e) fD λ_=>wY (RS _ rfl) rfl rfl rfl .nil;generalize hH:s2.heap.push {cls:=.type "list",dict:=none,data:=.seq ([]:List QS).toArray}=H at S3 hns hsb⊢;have fC:H.get? H.objs.size=none:=Ru (Rl _);have nC:=(S3.fresh fC).2;have kp:∀a o,H.get? a=some o->h1.get? a=some o:=λa o e=>(hsb.2 a λq=>nomatch(q▸e).symm.trans fC).trans (QY _ e);have S4:=S3.p9 (c:=.bo []) (d:=s2.drawn) (t:=s2.toks) kp fC λ_=>Ns.cell hns λ_ _ e=>aX e;generalize s2.heap.objs.size=D at nD nC S4⊢;have ID:=yy Map.a7 nD;have DC:=yy Map.a7 nC;have IC:=yy ((Map.aO ID).trans Map.a7) nC;have e4:((φ.put I (.raw o)).put D (.lst [])).put H.objs.size (.bo [])=(two φ D H.objs.size [] []).put I (.raw o):=(QQ (λm:Map=>m.put _ _) (m5 ID)).trans (m5 IC);rw [e4] at S4;have tk:=tk1.trans (y.2.2.2.2.trans (((hH▸jc):ax s2.heap H).trans (.of kp)))
 have loop:=NJ (px:=px) (pos:=pos) (iter:=iter) (zC hh) (q.1.lim r) t cs hcl ((Map.aO ID.symm).symm.trans nD) ((Map.aO IC.symm).symm.trans ((Map.aO DC.symm).symm.trans nC)) y.2.2.1 DC ID IC me ht
  ⟨0,[],σ1,[],o,rfl,Rr _,Rl _,S4,y.2.1,r.mono (y.2.2.2.2.trans (((hH▸jc):ax s2.heap H).trans (.of kp))),tk,q.2⟩
 replace loop:=codeAny_mono loop λr s' z=>k D _ r s' DC ((Map.aO ID.symm).symm.trans nD) ((Map.aO IC.symm).symm.trans ((Map.aO DC.symm).symm.trans nC)) z
 have g:h1.get? I=some o:=(S4.r Map.a7).elim λo' z=>z.2.2▸z.1;exact codeAny_compStart_list loop (Ls loop (fQ.of y.2.1 g))
def kP(Q:V->Map->Prop)(vs:List V)(σ:Map):Prop:=∀a,σ a=none->Q (.r a) (σ.put a (.lst vs))
theorem yg{Q:V->Map->Prop}{el iter:QL}{ifs:List QL}{px pos:Pos}(hh:A.handled=none)(t:At c A env sc φ)(S:ag c.B σ φ s)(hc:mr sc (QJ x) inner=true)(mi:bq sc it iter)(me:bq inner elt el)(ht:mE inner ifs T)(h:Ev c it σ (jD c x T elt (kP Q))):
  wpAny c.B.M A (eval (.ListComp el [⟨.Name (QJ x) px,iter,ifs,0⟩] inner pos) env) (aA c.B φ s.heap Q) (Px c.B φ (atAny env) c.X) s:=
 have cs:=DB hc
 (DO λn m=>(cs.all n _ m).elim (λe=>nomatch e.1) λe=>e.elim (λe=>(t.bj n e.2).2) λe=>nomatch e).elim λcl hcl=>eval_ListComp ..▸WL rfl (λ_=>xO mi.odd) hcl.1 cs.kind cs.names
  (DA hh t S cs hcl.2 mi me ht h λD C r s' DC nD nC z=>match r,z with
   |.ok _,z=>az z λacc σ1 f z=>(z.2.1.r Map.a7).bo.elim λm q=>⟨m,q.1,λh' hs=>have dr:=z.2.1.drop ((Map.aO DC.symm).trans nC) hs.extBut;⟨.r D,_,z.1 D (z.2.1.dm ((Map.aO DC).trans Map.a7)),rfl,dr.1.move nD,z.2.2.trans dr.2⟩⟩
   |.error _,z=>z.elim)
theorem Ev.comp{Q:V->Map->Prop}(hh:c.h=false)(h:Ev c it σ (jD c x (λ_ σ Q=>Q true σ) elt (kP Q))):Ev c (.comp x it elt) σ Q:=λA env sc φ s z t m S=>ik.inv m.b λe g inner p m=>iz.inv m λnp it' ifs m=>have m:=cV m;(isNil.inv m.1).symm▸yg (tX t hh) t S m.2.1 m.2.2.1 m.2.2.2 zj h
theorem Ev.gj{Q:V->Map->Prop}{cond:E}(hh:c.h=false)(h:Ev c it σ (jD c x (λc σ Q=>Ts c cond σ Q) elt (kP Q))):Ev c (.gj x it cond elt) σ Q:=λA env sc φ s z t m S=>ik.inv m.b λe g inner p m=>iz.inv m λnp it' ifs m=>a8.inv m λc' m=>have m:=cV m;yg (tX t hh) t S m.1 m.2.1 m.2.2.2 (zi m.2.2.1) h
end
theorem Gq{el:QL}{g:List Us}{sc:RE}{p tp:Pos}{t:Str}{l:Nat}{env:Env}:∃b,V1 (.ListComp el g sc p) (some (.Name t tp)) l env=pure b/\(b=true->env.kindOf t=some .local):=⟨env.blockKind==.function&&env.kindOf t==some .local&&tp.line==p.line&&!(sc.names.any λ(n,k)=>n==t&&(k==.local||k==.cell)),rfl,λh=>Q6.mp (ae (ae (ae h).1).1).2⟩
theorem Mc{B:Bs}{h:Rn}{a:Q5}{l:aK}(x:B.aW h a (.bo l)):∃o m,B.aW h a (.raw o)/\∀h':Rn,h'.get? a=some o->h'.Ns a m:=x.elim λo y=>ao y.2.2 λes ep z=>⟨o,nsFind es,⟨o,y.1,y.2.1,rfl⟩,λh' e=>⟨o,es,ep,e,z.1,z.2.1,λ_=>rfl⟩⟩
section
variable{c:Cx}{A:Rg}{env:Env}{sc inner:RE}{φ₀ φ σ:Map}{x y:String}{T:kJ}{it elt:E}{s:QT}{K:bK}{h₀:Rn}
theorem Ec{el iter:QL}{ifs:List QL}{px py pos sp:Pos}(hk:c.κ.lookup y=none)(hx:fY sc (QJ y)=true)(t:Fr c A env sc φ₀ φ)(hh:A.handled=none)(S:ag c.B σ φ s)(hc:mr sc (QJ x) inner=true)(mi:bq sc it iter)(me:bq inner elt el)(ht:mE inner ifs T)
  (h:Ev c it σ (jD c x T elt (kP λv σ=>K.ay ((y,v)::c.ρ) σ))):wpAny c.B.M A (exec (.Assign [.Name (QJ y) py] (.ListComp el [⟨.Name (QJ x) px,iter,ifs,0⟩] inner pos) sp) env) (bG c A env sc φ₀ s.heap K) (cW c A env sc φ₀) s:=by
 refine (Gq (el:=el) (g:=[⟨.Name (QJ x) px,iter,ifs,0⟩]) (sc:=inner) (p:=pos) (tp:=py) (t:=QJ y) (l:=sp.line) (env:=env)).elim λb hb=>?_;have cs:=DB hc
 cases b with
 |false=>exact YR (RF (yg hh t.at' S hc mi me ht h) (λu s1 p=>p.elim λv σ1 q r S1 tk=>aG (jW t hx hk S1 r) (λ_ s2 P=>bL.of (P.after tk) q)) λ_ _ z=>t.px z) hb.1
 |true=>
  refine aa (exec_Assign_Name_used _ _ _ _ hb.1) ?_;refine QM (Sf (QM ?_));refine (DO λn m=>(cs.all n _ m).elim (λe=>nomatch e.1) λe=>e.elim (λe=>(t.at'.bj n e.2).2) λe=>nomatch e).elim λcl hcl=>?_
  refine QM (aG (WL rfl (λ_=>xO mi.odd) hcl.1 cs.kind cs.names
   (RF (DA hh t.at' S cs hcl.2 mi me ht h λD C r s' DC nD nC z=>(?_:compPost c.B.M A (cW c A env sc φ₀) (some (assign (.Name (QJ y) py) env)) (λ_ s'=>bG c A env sc φ₀ s.heap K .next s') (.ref D) C r s')) (λ_ _ z=>RF z (λ_ _ z=>RF z (λ_ _ z=>RF z (λ_ _ z=>z) λ_ _ z=>t.px z) λ_ _ z=>t.px z) λ_ _ z=>t.px z) λ_ _ z=>t.px z)) (λ_ s' hq=>QV (QV hq)))
  cases r with
  |error e=>exact z.elim
  |ok f=>
   refine az z λacc σ1 f z=>ao (Mc (z.2.1.r Map.a7)) λo m g=>?_;have S1:ag c.B σ1 (((φ.put D (.lst acc)).put C (.bo f)).put C (.raw o)) s':=z.2.1.jb Map.a7 (.refl ..) λ_=>g.1;rw [lD,m5 DC] at S1;have S2:=S1.move ((Map.aO DC).trans nD);have n0:=Q9.mpr λd e=>nomatch(t.sub _ d e).symm.trans nC;refine Vh (aG (jW (t.it nC) hx hk S2 (v:=.r D) rfl) (λ_ s2 P=>Q7 P λφ2 P=>?_));have h2:=P.1.sub _ _ Map.a7;refine ⟨m,g.2 _ ((P.2.1.r h2).elim λo' z=>z.2.2▸z.1),λh' hs=>?_⟩;have dr:=(((Nx h2).symm▸P.2.1:ag c.B _ ((φ2.del C).put C (.raw o)) s2)).drop (t:=s2.toks) (QR rfl) hs.extBut;exact ⟨_,_,φ2.del C,z.1 D (z.2.1.dm ((Map.aO DC).trans Map.a7)),P.1.del h2 n0,dr.1,z.2.2.trans (P.2.2.trans dr.2)⟩
theorem br.PC(hk:c.κ.lookup y=none)(h:Ev c it σ (jD c x (λ_ σ Q=>Q true σ) elt (kP λv σ=>K.ay ((y,v)::c.ρ) σ))):br c (.asg y (.comp x it elt)) σ K:=λA env sc φ₀ φ s z t hh m S=>cY.inv m λls v p m=>have m:=ae m;a8.inv m.1 λtg g=>have g:gq sc y tg:=cO.inv g;g.1.elim λq g'=>g'▸
 ik.inv (bq.b m.2) λe k inner p n=>iz.inv n λnp it' ifs n=>have n:=cV n;(isNil.inv n.1).symm▸Ec hk g.2 t hh S n.2.1 n.2.2.1 n.2.2.2 zj h
theorem br.PB{cond:E}(hk:c.κ.lookup y=none)(h:Ev c it σ (jD c x (λc σ Q=>Ts c cond σ Q) elt (kP λv σ=>K.ay ((y,v)::c.ρ) σ))):br c (.asg y (.gj x it cond elt)) σ K:=λA env sc φ₀ φ s z t hh m S=>cY.inv m λls v p m=>have m:=ae m;a8.inv m.1 λtg g=>have g:gq sc y tg:=cO.inv g;g.1.elim λq g'=>g'▸
 ik.inv (bq.b m.2) λe k inner p n=>iz.inv n λnp it' ifs n=>a8.inv n λc' n=>have n:=cV n;Ec hk g.2 t hh S n.1 n.2.1 n.2.2.2 (zi n.2.2.1) h
end
end
section
open _root_.PySem _root_.PySem.Calls PyProof.Rows
open Sem (wp)
section
variable{prog:RU}{w:Sz}{A:Rg}{E:QS->QT->Prop}{s:QT}{R:W6->QT->Prop}
theorem NM{body env}
  (h:aU (model prog w) (A.deeper env) (execs body env) (λf s'=>R (.ok (.ret (match f with|.ret v=>v|_=>.none))) s')
   (λe s'=>aU (model prog w) (A.deeper env) (leaving env e) (λ_ s''=>R (.error e) s'') (λe' s''=>R (.error e') s'') s') s):
  fg (model prog w) A (.func body env) R s:=by
 refine oA rfl ?_;refine (?_:aU _ (A.deeper env) (do point;match←(execs body env).onRaise (leaving env) with|.ret v=>Ze v|_=>Ze .none) _ _ s);refine bH (bM (Xx (bH (EF (cB h (λf s' h'=>?_) λ_ _ h'=>h')))))
 cases f<;>exact fv h'
theorem NN{a:Q5}{args:Args}{o:Obj}{fd:UR}{body:List So}(hroom:A.depth<TF)
  (ho:s.heap.get? a=some o)
  (hd':o.data=.func fd) (hco:fd.scope.isCoroutine=false) (hgen:fd.scope.isGenerator=false) (hbody:fd.body=.stmts body) (hcd:s.heap.CodeRec fd.code fd.qualname)
  (h:wpAny (model prog w) A.in1 (YI fd args) (λbinds s₁=>
   wpAny (model prog w) A.in1 (Z8 fd.scope fd.globals fd.closure binds (fd.qualname++".<locals>.") (some a) fd.code none fd.builtins)
    (λenv s₂=>s₂.heap.NoLimit/\fg (model prog w) A (.func body env) R s₂) (λe s'=>R (.error e) s') s₁) (λe s'=>R (.error e) s') s):
  fg (model prog w) A (.call (.ref a) args) R s:=by
 refine oA rfl (bM ?_);refine (?_:wpAny _ A.in1 (load a>>=_) _ _ s);refine QM (Yv ho ?_);obtain ⟨c,oc,vs,tq,hc,hoc,hdc,hq⟩:=hcd;refine aa hd' ?_;refine (?_:wpAny _ A.in1 (callFunction a fd args) _ _ s);unfold callFunction;refine aa hgen (aa hco (aa hbody (aa hc ?_)));rw [hc] at h;refine QM (Tl hoc hdc hq (QM (QV ?_)))
 exact QM (RF h (λbinds s₁ h₁=>QM (RF h₁ (λenv s₂ h₂=>QM (wpAny_enterFrame h₂.1 hroom
  (QV (And.intro rfl h₂.2)))) λ_ _ h'=>h')) λ_ _ h'=>h')
theorem NO{R:W6->QT->Prop}{a:Q5}{o:Obj}{fd:UR}{body:List So}{vals:List QS}{binds:List (Str×QS)}
  (hroom:A.depth<TF) (ho:s.heap.get? a=some o) (hdata:o.data=.func fd) (hlim:s.heap.NoLimit) (hcd:s.heap.CodeRec fd.code fd.qualname)
  (hbody:fd.body=.stmts body) (hbind:YI fd ⟨vals,[]⟩=pure binds) (hclo:fd.closure=[])
  (hkind:∀x∈binds,fd.scope.names.lookup x.1=some .local\/(fd.scope.names.lookup x.1=some .cell/\((XY (s.heap.objs.size+1) fd.scope.names []).lookup x.1).isSome=true))
  (h:∀s₁,InCallC s (Vj fd s.heap.objs.size a).locals (bindL (Vj fd s.heap.objs.size a).kindOf binds λ_=>none) (Vj fd s.heap.objs.size a).cells
    (bindC (Vj fd s.heap.objs.size a).kindOf binds λ_=>none) s₁->
   aU (model prog w) (A.deeper (Vj fd s.heap.objs.size a)) (execs body (Vj fd s.heap.objs.size a)) (λf s'=>R (.ok (.ret (match f with|.ret v=>v|_=>.none))) s')
    (λe s'=>aU (model prog w) (A.deeper (Vj fd s.heap.objs.size a)) (leaving (Vj fd s.heap.objs.size a) e) (λ_ s''=>R (.error e) s'') (λe' s''=>R (.error e') s'') s') s₁)
  (hco:fd.scope.isCoroutine=false) (hgen:fd.scope.isGenerator=false) (hk:fd.scope.kind=.function):
  fg (model prog w) A (.call (.ref a) ⟨vals,[]⟩) R s:=by
 refine NN hroom ho hdata hco hgen hbody hcd ?_;refine aa hbind (aa hclo ?_);refine QV (wpAny_newFunctionEnv_cells hk hkind λenv he s' x=>?_);subst he;exact ⟨hlim.keeps x.toInCall.keep,NM (h s' x)⟩
theorem DG{id:String}{args:Args}{b:Builtin}(hcl:pR.contains id=true)(hb:WU Ud id=some b)
  (h:aU (model prog w) (A.under (.builtin id args)) (b args)
   (λfin s'=>match fin with|.done f=>R (.ok f) s'|.again c'=>c'.quiet=true/\fg (model prog w) A c' R s') (λe s'=>R (.error e) s') s):
  fg (model prog w) A (.builtin id args) R s:=by
 refine oA hcl ?_;refine (?_:aU _ _ (match WU Ud id with|some b=>b args|none=>unsupported ((withoutEnding? id "#data").getD id)) _ _ s);refine aa hb ?_;exact h
theorem DF{id:String}{args:Args}{b:Builtin}(hq:(VZ id args).quiet=true)(hcl:pR.contains id=true)(hb:WU Ud id=some b)
  (h:wpAny (model prog w) A.in1 (SJ id args) (λ_ s₁=>aU (model prog w) (A.under (.builtin id args)) (b args)
   (λfin s'=>match fin with|.done f=>R (.ok f) s'|.again c'=>c'.quiet=true/\fg (model prog w) A c' R s') (λe s'=>R (.error e) s') s₁)
   (λe s'=>R (.error e) s') s):fg (model prog w) A (.call (.builtin id) args) R s:=by
 refine oA rfl ?_;refine (?_:aU _ A.in1 (do SJ id args;again (.builtin id args)) _ _ s);exact bH (bM (RF h (λ_ s₁ h₁=>fv (And.intro hq (DG hcl hb h₁))) λ_ _ h'=>h'))
theorem NP{id:String}{args:Args}{b:Builtin}(hq:plainId id=true)(hcl:pR.contains id=true)(hb:WU Ud id=some b)
  (h:wpAny (model prog w) A.in1 (SJ id args) (λ_ s₁=>aU (model prog w) A.in1 (b args)
   (λfin s'=>match fin with|.done f=>R (.ok f) s'|.again c'=>c'.quiet=true/\fg (model prog w) A c' R s') (λe s'=>R (.error e) s') s₁)
   (λe s'=>R (.error e) s') s):fg (model prog w) A (.call (.builtin id) args) R s:=
 DF (plainId_quiet hq args) hcl hb (by refine aa (XF hq args) ?_;exact h)
theorem EG{env:Env}{st rest}{Q:ZE->QT->Prop}
  (h:aU (model prog w) A (exec st env) (λf s'=>match f with|.next=>aU (model prog w) A (execs rest env) Q E s'|f=>Q f s') E s):
  aU (model prog w) A (execs (st::rest) env) Q E s:=λΓ p hΓ h1 h2=>by
 rewrite [aaa,W7];refine Uc _ Γ _ (λf p' s' h'=>?_) (λ_ _ _ h'=>h') _ _ (h Γ p hΓ h1 h2)
 cases f<;>first|exact h' Γ p' hΓ h1 h2|exact h'
end
end
section
open _root_.PySem _root_.PySem.Calls PyProof.Rows
open Sem (wp)
open _root_.PySem.Builtin.Bytes
theorem yu:mroOf (.type "bytearray")=pure [.type "bytearray",.type "object"]:=by rewrite [mroOf_type];kernel_rfl
theorem Ph:S6 (.type "bytearray") "__new__"=pure (some (.builtin "bytearray.__new__")):=by(rewrite [Tc];refine aa R9 ?_);kernel_rfl
theorem q8:isSubtype (.type "bytearray") (.type "bytearray")=pure true:=by rewrite [Wa];kernel_rfl
theorem D5:S6 (.type "bytearray") "__init__"=pure (some (.builtin "bytearray.__init__")):=by(rewrite [Tc];refine aa R9 ?_);kernel_rfl
theorem uz:Slot "bytearray" "__init__" "bytearray.__init__":=Slot.of D5 (n:="__init__") (by decide+kernel) (by decide+kernel) (by decide+kernel) (.inl (by decide+kernel)) q8
theorem yw:TypeCalled "bytearray" "bytearray.__new__" "bytearray.__init__":=⟨by decide+kernel,by decide+kernel,⟨_,_,yu⟩,madeBy_type yu Ph (by decide+kernel),by decide+kernel,q8,uz⟩
theorem Pc:checkTypeCall "bytearray" ⟨[],[]⟩=pure ():=by kernel_rfl
theorem Pg:SJ "bytearray.__new__" ⟨[.type "bytearray"],[]⟩=pure ():=by kernel_rfl
theorem Pl:WU Ud "bytearray.__new__"=some Builtin.«list.__new__»:=entryFor_alias (id':="list.__new__") (by rewrite [YU];kernel_rfl) (by decide+kernel) (by kernel_rfl) (by rewrite [YU];kernel_rfl)
theorem Pm:WU Ud "bytearray.__init__"=some Builtin.«bytearray.__init__»:=Za (by kernel_rfl)
theorem D0:plainId "bytearray.__new__"=true:=by decide+kernel
theorem Pq a:argsOk "bytearray.__init__" ⟨[a],[]⟩:=by unfold argsOk;kernel_rfl
theorem Pd:S6 (.type "bytearray") "__release_buffer__"=pure (some (.builtin "bytearray.__release_buffer__")):=by(rewrite [Tc];refine aa R9 ?_);kernel_rfl
set_option maxRecDepth 1000000 in
set_option maxHeartbeats 4000000 in
theorem Pe:("bytearray.__new__".splitOn ".__new__").headD ""="bytearray":=by refine aa _root_.PySem.W.splitQ_eq ?_;kernel_rfl
section
variable{prog:RU}{w:Sz}{A:Rg}{E:QS->QT->Prop}{s:QT}
theorem NL{Q₁:QS->QT->Prop}
  (h:Q₁ (.ref s.heap.objs.size) {s with heap:=s.heap.push {cls:=.type "bytearray",data:=.bytearray #[]}}):
  XX (model prog w) A (.call (.builtin "bytearray.__new__") ⟨[.type "bytearray"],[]⟩) (wants Q₁ E) s:=by
 refine ZG ?_;refine (?_:wpAny _ A.in1 (do SJ "bytearray.__new__" ⟨[.type "bytearray"],[]⟩;again (.builtin "bytearray.__new__" ⟨[.type "bytearray"],[]⟩)) _ _ s);refine QM (WA Pg (QV ⟨plainId_quiet D0 _,codeAny_builtin_stack Pl rfl λp st=>?_⟩));refine aa (XF D0 _) ?_;have hsub:=q8;have hown:=Pe;obtain ⟨hp,g,d,tk,os⟩:=s;wp_walk;refine aa hown ?_;wp_walk;exact h
end
theorem Pn:("bytearray.__release_buffer__".endsWith ("."++"__release_buffer__"))=true:=by decide+kernel
theorem Po:"bytearray.__release_buffer__".dropRight ("__release_buffer__".length+1)="bytearray":=by kernel_rfl
theorem Pp:bindOptional "bytearray.__init__" "bytearray" ["source","encoding","errors"] [] []=pure [none,none,none]:=by kernel_rfl
theorem Jb{x:String}(h:pR.contains x=true):x="claim.caller"\/x="type.__call__"\/x="bytearray.__init__":=by
 have m:=Sp.mp h;exact (QZ.mp m).imp id λm=>(QZ.mp m).imp id λm=>QW.mp m
section
variable{α β:Type}{M:Ub}{A:Rg}{E:QS->QT->Prop}{s:QT}{c:Prop}{dc:Decidable c}{t e:Sem α}{Q:α->QT->Prop}
theorem kW(n:¬c)(h:aU M A e Q E s):aU M A (@ite _ c dc t e) Q E s:=(QP n).symm▸h
theorem o4{m:Sem β}{f:β->Sem α}{x:β}(e:m=pure x)(h:aU M A (f x) Q E s):aU M A (m>>=f) Q E s:=e▸bH (fv h)
end
section
variable{prog:RU}{w:Sz}{A:Rg}{E:QS->QT->Prop}{s:QT}
theorem Pk{M:Ub}{a:Q5}{Q:Bool->QT->Prop}(h:Q false s):aU M A (exported (.ref a)) Q E s:=by
 refine ED (λc p hc=>?_) h
 cases c with
 |builtin id args=>
  obtain ⟨pos,kw⟩:=args;rcases Jb hc with rfl|rfl|rfl
  all_goals (
   cases pos with
   |nil=>rfl
   |cons v t=>cases t with
    |nil=>exact XG _
    |cons v t=>cases t with
     |nil=>exact XG _
     |cons v t=>exact XG _)
 |_=>rfl
theorem Pf{a:Q5}{Q:Bool->QT->Prop}(hT:s.TypeIs (.ref a) "bytearray")(h:Q false s):wpAny (model prog w) A (ownRelease (.ref a)) Q E s:=by
 refine QM (QM (Ta hT Pd ?_));dsimp only;refine aa (QP (by rw [Pn];decide)) ?_;refine aa Po ?_;exact WQ hT q8 (QV h)
theorem Pj{a:Q5}{Q:Fin->QT->Prop}(ho:s.heap.get? a=some {cls:=.type "bytearray",data:=.bytearray #[]})
  (h:∀h',h'.get? a=some {cls:=.type "bytearray",data:=.bytearray #[]}->(∀b,b≠a->h'.get? b=s.heap.get? b)->h'.objs.size=s.heap.objs.size->Q (.done (.ret .none)) {s with heap:=h'}):
  aU (model prog w) A (Builtin.«bytearray.__init__» ⟨[.ref a],[]⟩) Q E s:=by
 have hT:s.TypeIs (.ref a) "bytearray":=⟨_,ho,rfl⟩;refine bH (bM (Pf hT ?_));refine kW (by decide) ?_;refine o4 Pp ?_;refine bH (bM (QV ?_));refine bH (bM (QV ?_));refine bH (bH ?_);refine Pk ?_;refine bM (QM (QM (Yv ho (QV (QV ?_)))));refine kW (by decide) ?_;refine bM (QM (QM (Yv ho (QM (wpAny_update ho ?_)))));have h1:=RR (Obj.mapBytearray λ_=>(#[]:Array UInt8)) ho rfl;refine WY h1 (by rfl) ?_;refine QM (QV (QM (QV (QV ?_))));exact h _ h1 (λb hb=>Ul _ _ (UG hb)) (Heap.size_after_update ..)
theorem N5{Q:QS->QT->Prop}
  (h:∀h',h'.get? s.heap.objs.size=some {cls:=.type "bytearray",data:=.bytearray #[]}->(∀b o,s.heap.get? b=some o->h'.get? b=some o)->Q (.ref s.heap.objs.size) {s with heap:=h'}):
  aU (model prog w) A (call (.type "bytearray") []) Q E s:=by
 refine rC (oA rfl ?_);refine fv ⟨Uk _ (by decide+kernel),DG (by decide+kernel) F.entry_type_call ?_⟩;refine (Around.under_plain (weight_type_call_type "bytearray" [] []) rfl).symm▸?_;unfold Builtin.«type.__call__»;refine kW ?_ ?_
 ·refine aa yw.notType ?_;decide
 refine kW ?_ ?_
 ·have:=yw.canCreate
  refine aa this ?_;decide
 refine o4 Pc (o4 yu (kW (by decide) (o4 yw.made ?_)));refine bH (fv (bH (kX (bM (Xg (NL ?_))))));have ho:(s.heap.push {cls:=.type "bytearray",data:=.bytearray #[]}).get? s.heap.objs.size=some {cls:=.type "bytearray",data:=.bytearray #[]}:=RS _ rfl;have hT:(⟨s.heap.push {cls:=.type "bytearray",data:=.bytearray #[]},s.gens,s.drawn,s.toks,s.os⟩:QT).TypeIs (.ref s.heap.objs.size) "bytearray":=⟨_,ho,rfl⟩;refine bH (bM (WQ hT q8 ?_));refine kW (by decide) (bH (kX (bH (bM (Ta hT D5 ?_)))));refine kX (o4 (uz.bind _) (bH (rC ?_)));refine NP uz.plain (by decide+kernel) Pm (uz.check _ _ _ _ _ _ _ _ hT (Pq _) ?_);refine Pj ho λh' e1 e2 e3=>fv (kW (by decide) ?_);exact fv (h h' e1 λb o e=>(e2 b (λq=>nomatch(Ru (R4 q.symm)).symm.trans e)).trans (QY _ e))
end
end
section
open _root_.PySem _root_.PySem.Calls PyProof.Rows
open Sem (wp)
section
variable{prog:RU}{w:Sz}{A:Rg}{E:QS->QT->Prop}{h:Rn}{g:Array Z1}{d:Drawn}{t:Nat}{os:XR}
variable{nm q:Str}{C N:Q5}{bs:List QS}{sn:List Str}{sub:List QS}{col:Option Bool}{dd:Option Q5}{k0 k1 k2 k3 k5:Option QS}{newId:String}
theorem EC(F:ObjNewFacts newId){mN:Str->Option QS}{rest:List QS}{fI:Q5}{oI:Obj}{Q:aaC->QT->Prop}
  (hC:h.get? C=some (U5 nm q C N bs [.type "object"] true sn sub false col dd k0 k1 k2 k3 k5 newId)) (hn:h.Ns N mN) (hi:mN "__init__"=some (.ref fI))
  (hfI:h.get? fI=some oI) (hfc:oI.cls=.type "function")
  (hq:∀h' x dx,YV h h' x dx C->
   aU (model prog w) A (call (.ref fI) (.ref x::rest)) (λr s'=>r=.none/\Q (.done (.ret (.ref x))) s') E ⟨h',g,d,t,os⟩):
  aU (model prog w) A (Builtin.«type.__call__» ⟨.ref C::rest,[]⟩) Q E ⟨h,g,d,t,os⟩:=by
 have hmro:mroOf (.type "object")=pure [.type "object"]:=by kernel_rfl
 have hlk:S6 (.type "object") "__init__"=pure (some (.builtin "object.__init__")):=by(rewrite [Tc];refine aa R9 ?_);kernel_rfl
 unfold Builtin.«type.__call__»;dsimp only;refine aa (QP (λe=>by cases e)) ?_;refine bH (cB (Q:=λ(l:List QS) s'=>l.isEmpty=false/\s'=⟨h,g,d,t,os⟩) (bM ?_) (λl s' hl=>?_) λ_ _ x=>x)
 ·repeat(first|with_reducible refine RD hC ?_|wp_step)
  exact ⟨rfl,rfl⟩
 ·obtain ⟨hl,rfl⟩:=hl
  refine aa (QP (by rw [hl];decide)) ?_;refine bH (bM (Zi hC ?_));dsimp only;refine bH (fv (bH (kX (bM (Xg (Ws (Uk _ F.quiet) (wpAny_check_obj_new F hC (codeAny_obj_new F hC hn hi ?_))))))));have hC₁:=QY {cls:=.ref C,dict:=some h.objs.size,data:=.plain} (QY {cls:=.type "dict",data:=.dict #[]} hC);have hfI₁:=QY {cls:=.ref C,dict:=some h.objs.size,data:=.plain} (QY {cls:=.type "dict",data:=.dict #[]} hfI)
  have hn₁:((h.push {cls:=.type "dict",data:=.dict #[]}).push {cls:=.ref C,dict:=some h.objs.size,data:=.plain}).Ns N mN:=
   let⟨o,es,ep,e,r⟩:=hn;⟨o,es,ep,QY _ (QY _ e),r⟩
  have hget:((h.push {cls:=.type "dict",data:=.dict #[]}).push {cls:=.ref C,dict:=some h.objs.size,data:=.plain}).get? (h.objs.size+1)=some {cls:=.ref C,dict:=some h.objs.size,data:=.plain}:=by heap_get
  have hgd:((h.push {cls:=.type "dict",data:=.dict #[]}).push {cls:=.ref C,dict:=some h.objs.size,data:=.plain}).get? h.objs.size=some {cls:=.type "dict",data:=.dict #[]}:=
   QY _ (WD rfl rfl)
  have hcC:(RT C::[Value.type "object"]).contains (.ref C)=true:=by simp
  have hM:YV h ((h.push {cls:=.type "dict",data:=.dict #[]}).push {cls:=.ref C,dict:=some h.objs.size,data:=.plain}) (h.objs.size+1) h.objs.size C:=⟨λb o hb=>QY _ (QY _ hb),Ru (RI _),Ru (Rl _),
   ⟨_,hget,rfl,λc=>by simp,.inr ⟨h.objs.size,rfl,SP (SU _),YS ⟨_,#[],_,hgd,rfl,λe he=>absurd he (by simp),λ_=>rfl⟩⟩⟩,
   λo ho=>by obtain rfl:=QK (hget.symm.trans ho);rfl,by simp only [XB];lia⟩
  dsimp only;generalize ((h.push {cls:=.type "dict",data:=.dict #[]}).push {cls:=.ref C,dict:=some h.objs.size,data:=.plain})=h₁ at*;refine bH (cB (Q:=λ(b:Bool) s'=>b=true/\s'=⟨h₁,g,d,t,os⟩) (bM ?_) (λb s' hb=>?_) λ_ _ x=>x)
  ·unfold isInstance
   repeat(first|with_reducible refine RD hget ?_|(with_reducible refine Tu hC₁ ?_;refine aa hcC ?_)|wp_step)
   exact ⟨rfl,rfl⟩
  ·obtain ⟨rfl,rfl⟩:=hb
   refine aa (QP (by decide)) ?_;refine bH (kX ?_);refine bH (cB (Q:=λ(v:Option QS) s'=>v=some (.ref fI)/\s'=⟨h₁,g,d,t,os⟩) (bM ?_) (λv s' hv=>?_) λ_ _ x=>x)
   ·unfold specialOf
    repeat(first|with_reducible refine RD hget ?_|wp_step)
    refine wpAny_typeLookup_exc hC₁ hn₁ hmro hlk ?_;refine aa hi ?_;exact ⟨rfl,rfl⟩
   ·obtain ⟨rfl,rfl⟩:=hv
    dsimp only;refine kX ?_;refine bH (bH (bM (Xd ⟨_,hfI₁,hfc⟩ ?_)));refine aa (QR (by decide)) ?_;refine fv (bH (cB (hq _ _ _ hM) (λr s' hr=>?_) λ_ _ x=>x));obtain ⟨rfl,hQ⟩:=hr;refine fv ?_;dsimp only;refine aa (QP (by decide)) ?_;exact fv hQ
theorem EI(F:ObjNewFacts newId){mN:Str->Option QS}{rest:List QS}{fI:Q5}{oI:Obj}{Q:QS->QT->Prop}
  (hC:h.get? C=some (U5 nm q C N bs [.type "object"] true sn sub false col dd k0 k1 k2 k3 k5 newId)) (hn:h.Ns N mN) (hi:mN "__init__"=some (.ref fI))
  (hfI:h.get? fI=some oI) (hfc:oI.cls=.type "function")
  (hq:∀h' x dx,YV h h' x dx C->
   aU (model prog w) (A.under (.builtin "type.__call__" ⟨.ref C::rest,[]⟩)) (call (.ref fI) (.ref x::rest)) (λr s'=>r=.none/\Q (.ref x) s') E ⟨h',g,d,t,os⟩):
  aU (model prog w) A (call (.ref C) rest) Q E ⟨h,g,d,t,os⟩:=by
 have f1:=tc_lookup;have f2:=tc_bind (.ref C);have hT:(⟨h,g,d,t,os⟩:QT).TypeIs (.ref C) "type":=⟨_,hC,rfl⟩;refine rC (oA rfl (bM ?_));refine (?_:wpAny _ _ (callAny (.ref C) _) _ _ _)
 repeat(any_goals (first|assumption|with_reducible refine RD hC ?_|wp_step))
 refine ⟨rfl,?_⟩;refine DF (Uk _ (by decide+kernel)) (by decide+kernel) Z3 (Wt hC (EC F hC hn hi hfI hfc λh' x dx hm=>?_));exact hq h' x dx hm
end
end
section
open _root_.PySem
set_option genCtorIdx true in
inductive W where
 |d (x:QI)
 |bb
 |s (k:Nat)
 |f (k:Nat) (i:Int)
 |g (k:Nat)
 |t (k:Nat)
set_option genCtorIdx true in
inductive af where
 |lst (l:List W)
 |aj (t:Nat) (l:List (QI×W))
 |obj (c:String) (l:List (String×W))
 |cH
structure HP where
 s:List (Option af)
 f:Nat->Int->Option af
 g:List af
structure Hs where
 p:HP
 t:List af
abbrev Ro:=List (String×W)
def aV{α:Type}(l:List α)(k:Nat):Option α:=l.rec (λ_=>none) (λx _ r k=>k.rec (some x) λk _=>r k) k
def upd{α:Type}(l:List α)(k:Nat)(y:α):List α:=l.rec (λ_=>[]) (λx t r k=>k.rec (y::t) λk _=>x::r k) k
def jn{α:Type}(o:Option (Option α)):Option α:=o.rec none id
def HP.get(p:HP)(w:W):Option af:=w.rec (λ_=>none) none (λk=>jn (aV p.s k)) p.f (aV p.g) λ_=>none
def Hs.get(h:Hs)(w:W):Option af:=w.rec (λ_=>none) none (λk=>jn (aV h.p.s k)) h.p.f (aV h.p.g) (aV h.t)
def Hs.set(h:Hs)(w:W)(c:af):Hs:=w.rec (λ_=>h) h (λk=>⟨⟨upd h.p.s k (some c),h.p.f,h.p.g⟩,h.t⟩) (λk i=>⟨⟨h.p.s,λj m=>if j=k/\m=i then some c else h.p.f j m,h.p.g⟩,h.t⟩) (λ_=>h) λk=>⟨h.p,upd h.t k c⟩
def nQ{α:Type}(o:Option (Option α)):Bool:=o.rec false λo=>o.rec true λ_=>false
def Hs.free(h:Hs)(w:W):Prop:=w.rec (λ_=>False) False (λk=>nQ (aV h.p.s k)=true) (λk i=>h.p.f k i=none) (λ_=>False) λk=>k=h.t.length
def Hs.new(h:Hs)(w:W)(c:af):Hs:=w.rec (λ_=>h) h (λ_=>h.set w c) (λ_ _=>h.set w c) (λ_=>h) λ_=>⟨h.p,h.t++[c]⟩
def W.nt(w:W):Bool:=w.rec (λ_=>true) true (λ_=>true) (λ_ _=>true) (λ_=>true) λ_=>false
def fW(ws:List W):Bool:=ws.rec true λw _ r=>w.nt&&r
def Wo{α:Type}(o:Option α)(Q:α->Prop):Prop:=o.rec False Q
def Gd(b:Bool)(Q:Prop):Prop:=b.rec False Q
def Br(b:Bool)(P Q:Prop):Prop:=b.rec Q P
def Oc{α:Type}(o:Option α)(A:Prop)(B:α->Prop):Prop:=o.rec A B
theorem Oc.no{α:Type}{o:Option α}{A:Prop}{B:α->Prop}(e:o=none)(q:A):Oc o A B:=e▸q
theorem Oc.yes{α:Type}{o:Option α}{A:Prop}{B:α->Prop}{x:α}(e:o=some x)(q:B x):Oc o A B:=e▸q
theorem Wo.of{α:Type}{o:Option α}{Q:α->Prop}{x:α}(e:o=some x)(q:Q x):Wo o Q:=e▸q
theorem Wo.get{α:Type}{o:Option α}{Q:α->Prop}(h:Wo o Q):∃x,o=some x/\Q x:=match o,h with
 |some x,h=>⟨x,rfl,h⟩
theorem Gd.of{b:Bool}{Q:Prop}(e:b=true)(q:Q):Gd b Q:=e▸q
theorem Gd.get{b:Bool}{Q:Prop}(h:Gd b Q):b=true/\Q:=match b,h with
 |true,h=>⟨rfl,h⟩
theorem Br.yes{b:Bool}{P Q:Prop}(e:b=true)(q:P):Br b P Q:=e▸q
theorem Br.no{b:Bool}{P Q:Prop}(e:b=false)(q:Q):Br b P Q:=e▸q
theorem Br.both{b:Bool}{P Q:Prop}(y:b=true->P)(n:b=false->Q):Br b P Q:=match b,y,n with
 |true,y,_=>y rfl
 |false,_,n=>n rfl
theorem Br.get{b:Bool}{P Q:Prop}(h:Br b P Q):(b=true->P)/\(b=false->Q):=match b,h with
 |true,h=>⟨λ_=>h,λe=>(nomatch e)⟩
 |false,h=>⟨λe=>(nomatch e),λ_=>h⟩
def W.dat(w:W):Option QI:=w.rec some none (λ_=>none) (λ_ _=>none) (λ_=>none) λ_=>none
noncomputable def intD(d:QI):Option Int:=d.casesOn none (λ_=>none) some (λ_=>none) (λ_=>none) (λ_=>none) λ_=>none
noncomputable def k9(d:QI):Option (List QI):=d.casesOn none (λ_=>none) (λ_=>none) (λ_=>none) (λ_=>none) some λ_=>none
def W.int(w:W):Option Int:=w.dat.rec none intD
def W.tup(w:W):Option (List QI):=w.dat.rec none k9
def d6(o:Option af):Option (List W):=o.rec none λc=>c.rec some (λ_ _=>none) (λ_ _=>none) none
def yc(o:Option af):Option (Nat×List (QI×W)):=o.rec none λc=>c.rec (λ_=>none) (λt l=>some (t,l)) (λ_ _=>none) none
def jd(o:Option af):Option (String×Ro):=o.rec none λc=>c.rec (λ_=>none) (λ_ _=>none) (λn l=>some (n,l)) none
def b9{α:Type}(b:Bool)(x y:α):α:=b.rec y x
def look(l:Ro)(x:String):Option W:=l.rec none λp _ r=>b9 (x==p.1) (some p.2) r
def dk(l:Ro)(x:String)(w:W):Ro:=l.rec [(x,w)] λp t r=>b9 (p.1==x) ((x,w)::t) (p::r)
open scoped Classical in
def qR(x y:QI):Bool:=x.casesOn (decide (x=y)) (λ_=>decide (x=y)) (λi=>y.casesOn false (λ_=>false) (λj=>i==j) (λ_=>false) (λ_=>false) (λ_=>false) λ_=>false) (λi=>y.casesOn false (λ_=>false) (λ_=>false) (λj=>i==j) (λ_=>false) (λ_=>false) λ_=>false) (λ_=>decide (x=y)) (λ_=>decide (x=y)) λ_=>decide (x=y)
def a5(l:List (QI×W))(x:QI):Option W:=l.rec none λp _ r=>b9 (qR p.1 x) (some p.2) r
def bX(l:List (QI×W))(x:QI)(w:W):List (QI×W):=l.rec [(x,w)] λp t r=>b9 (qR p.1 x) ((x,w)::t) (p::r)
def aR{α:Type}(b:Bool)(o:Option α):Option α:=b.rec none o
def bZ{α:Type}(l:List α)(j:Int):Option α:=j.casesOn (λn=>aR (Si n ah) (aV l n)) λ_=>none
theorem idx_eq{α:Type}:∀{l:List α}{k:Nat},aV l k=l[k]?
 |[],_=>rfl
 |_::_,0=>rfl
 |_::t,k+1=>idx_eq (k:=k)
theorem pb{α:Type}{y:α}:∀{l:List α}{k:Nat},upd l k y=l.set k y
 |[],_=>rfl
 |_::_,0=>rfl
 |x::t,k+1=>QQ (x::·) (pb)
theorem D9{α:Type}{l:List α}{x:α}:∀{j:Int},bZ l j=some x->0<=j/\j<ah/\l[j.toNat]?=some x
 |.ofNat n,e=>by
  have e:aR (Si n ah) (aV l n)=some x:=e
  cases h:Si n ah with
  |false=>rw [h] at e;exact aX e
  |true=>rw [h] at e;exact ⟨R7 n,R5.mpr (Tg.mp h),idx_eq.symm.trans e⟩
theorem at_of{α:Type}{l:List α}{x:α}{n:Nat}(h:n<ah)(e:l[n]?=some x):bZ l n=some x:=by
 refine (?_:aR (Si n ah) (aV l n)=_);refine aa (Tg.mpr h) ?_;exact idx_eq.trans e
open scoped Classical in
theorem uh{x y:QI}:qR x y=true↔x=y:=by
 cases x with
 |int i=>cases y with
  |int j=>exact Q6.trans ⟨λe=>e▸rfl,λe=>by injection e⟩
  |_=>exact ⟨λe=>ff e,λe=>SQ e⟩
 |str i=>cases y with
  |str j=>exact Q6.trans ⟨λe=>e▸rfl,λe=>by injection e⟩
  |_=>exact ⟨λe=>ff e,λe=>SQ e⟩
 |_=>exact decide_eq_true_iff
end
section
open _root_.PySem
open scoped Classical
abbrev Lm:=W->Option (Q5×Q5)
def Rf(L:Lm)(w:W)(v:V):Prop:=∃p,L w=some p/\v=.r p.1
def au(L:Lm)(w:W)(v:V):Prop:=w.rec (λx=>v=.d x) (v=.bb) (λk=>Rf L (.s k) v) (λk i=>Rf L (.f k i) v) (λk=>Rf L (.g k) v) λk=>Rf L (.t k) v
def PR{α:Type}(L:Lm)(x:α×W)(y:α×V):Prop:=x.1=y.1/\au L x.2 y.2
def Ln(L:Lm):Lm:=λw=>aR w.nt (L w)
def Lw(L:Lm)(w:W):Lm:=w.nt.rec L (Ln L)
def W.top(w:W):Bool:=w.rec (λ_=>false) false (λ_=>false) (λ_ _=>false) (λ_=>true) λ_=>false
def Own(B:Bs)(σ:Map)(w:W)(a:Q5)(c:Cell):Prop:=w.top.rec (σ a=some c) (B.R a=some c)
def eH(B:Bs)(L:Lm)(σ:Map)(w:W)(p:Q5×Q5)(c:af):Prop:=c.rec (λl=>p.2=p.1/\∃l',Own B σ w p.1 (.lst l')/\ai (au (Lw L w)) l l') (λt l=>p.2=p.1/\∃l',Own B σ w p.1 (.aj t l')/\ai (PR (Lw L w)) l l')
 (λn l=>w.top=false/\∃l',σ p.1=some (.ins n p.2)/\σ p.2=some (.aF l')/\ai (PR (Lw L w)) l l') (w.top=false/\p.2=p.1/\σ p.1=some .cH)
def yW(p q:Q5×Q5):Prop:=(p.1≠q.1/\p.1≠q.2)/\p.2≠q.1/\p.2≠q.2
noncomputable def uZ:Ro:=[("PRIM_TID",.g 0),("TID_PRIM",.g 1),("PRIM_ELEMENT",.g 2),("CODED",.g 3),("_law_ASMS",.d (.tuple [.str (QJ "core"),.str (QJ "lib"),.str (QJ "app"),.str (QJ "ext")]))]
structure av B L(h:Hs) σ:Prop where
 cell:∀w c,h.get w=some c->∃p,L w=some p/\eH B L σ w p c
 dh:∀w,h.get w=none->L w=none
 sep:∀w w' p q,L w=some p->L w'=some q->w≠w'->w.top=false->w'.top=false->yW p q
 gv:∀x w,look uZ x=some w->w.nt=true/\∃v,B.G x=some v/\au L w v
def Le(L L':Lm):Prop:=∀w p,L w=some p->L' w=some p
section
variable{B:Bs}{L L' L'':Lm}{h:Hs}{σ σ':Map}{w:W}{v:V}{c:af}{p:Q5×Q5}
theorem Le.refl:Le L L:=λ_ _ e=>e
theorem Le.trans(x:Le L L')(y:Le L' L''):Le L L'':=λw p e=>y w p (x w p e)
theorem Ln.le:Le (Ln L) L:=λw p e=>by
 unfold Ln at e
 cases q:w.nt with
 |false=>rw [q] at e;exact aX e
 |true=>rw [q] at e;exact e
theorem Ln.yes(n:w.nt=true):Ln L w=L w:=by unfold Ln;refine aa n ?_;rfl
theorem Le.ln(x:Le L L'):Le (Ln L) (Ln L'):=λw p e=>by
 unfold Ln at e⊢
 cases q:w.nt with
 |false=>rw [q] at e;exact aX e
 |true=>rw [q] at e;exact x w p e
theorem Lw.le:Le (Lw L w) L:=by
 unfold Lw
 cases w.nt with
 |false=>exact .refl
 |true=>exact Ln.le
theorem Le.lw(x:Le L L'):Le (Lw L w) (Lw L' w):=by
 unfold Lw
 cases w.nt with
 |false=>exact x
 |true=>exact x.ln
theorem Rf.mono(x:Le L L')(r:Rf L w v):Rf L' w v:=SY (λp y=>⟨x w p y.1,y.2⟩) r
theorem au.mono(x:Le L L'):au L w v->au L' w v:=w.rec (λ_ r=>r) (λr=>r) (λ_=>Rf.mono x) (λ_ _=>Rf.mono x) (λ_=>Rf.mono x) λ_=>Rf.mono x
theorem au.nt(n:w.nt=true):au L w v->au (Ln L) w v:=W.rec (λ_ _ r=>r) (λ_ r=>r) (λk n r=>SY (λp y=>⟨(Ln.yes n).trans y.1,y.2⟩) r) (λ_ _ n r=>SY (λp y=>⟨(Ln.yes n).trans y.1,y.2⟩) r) (λk n r=>SY (λp y=>⟨(Ln.yes n).trans y.1,y.2⟩) r) (λ_ n=>ff n) w n
theorem PR.mono{α:Type}{x:α×W}{y:α×V}(k:Le L L')(r:PR L x y):PR L' x y:=⟨r.1,r.2.mono k⟩
theorem Own.rd{a:Q5}{c:Cell}:Own B σ w a c->Rd B σ a c:=by
 unfold Own
 cases w.top with
 |false=>exact .inl
 |true=>exact .inr
theorem Own.own{a:Q5}{c:Cell}(n:w.top=false):Own B σ w a c->σ a=some c:=by unfold Own;refine aa n ?_;exact id
theorem Own.of{a:Q5}{c:Cell}(n:w.top=false)(e:σ a=some c):Own B σ w a c:=by unfold Own;refine aa n ?_;exact e
theorem eH.mono(x:Le (Lw L w) (Lw L' w))(k:w.top=false->∀a,a=p.1\/a=p.2->σ a≠none->σ' a=σ a):eH B L σ w p c->eH B L' σ' w p c:=
 have g:∀{a c},w.top=false->a=p.1\/a=p.2->σ a=some c->σ' a=some c:=λn e q=>(k n _ e (q▸Q1 _)).trans q
 have o:∀{c},Own B σ w p.1 c->Own B σ' w p.1 c:=λ{c} q=>by
  cases n:w.top with
  |false=>exact .of n (g n (.inl rfl) (q.own n))
  |true=>unfold Own at q⊢;rw [n] at q⊢;exact q
 c.rec (λ_ y=>⟨y.1,y.2.imp λ_ z=>⟨o z.1,z.2.imp λ_ _ r=>r.mono x⟩⟩) (λ_ _ y=>⟨y.1,y.2.imp λ_ z=>⟨o z.1,z.2.imp λ_ _ r=>r.mono x⟩⟩) (λ_ _ y=>⟨y.1,y.2.imp λ_ z=>⟨g y.1 (.inl rfl) z.1,g y.1 (.inr rfl) z.2.1,z.2.2.imp λ_ _ r=>r.mono x⟩⟩) λy=>⟨y.1,y.2.1,g y.1 (.inl rfl) y.2.2⟩
theorem eH.at(n:w.top=false):eH B L σ w p c->σ p.1≠none/\σ p.2≠none:=c.rec (λ_ y=>y.2.elim λ_ z=>have q:=(z.1.own n).symm▸Q1 _;⟨q,y.1.symm▸q⟩) (λ_ _ y=>y.2.elim λ_ z=>have q:=(z.1.own n).symm▸Q1 _;⟨q,y.1.symm▸q⟩) (λ_ _ y=>y.2.elim λ_ z=>⟨z.1.symm▸Q1 _,z.2.1.symm▸Q1 _⟩) λy=>have q:=y.2.2.symm▸Q1 _;⟨q,y.2.1.symm▸q⟩
theorem av.at(R:av B L h σ)(e:L w=some p)(n:w.top=false):σ p.1≠none/\σ p.2≠none:=by
 cases q:h.get w with
 |none=>exact nomatch e.symm.trans (R.dh w q)
 |some c=>exact (R.cell w c q).elim λp' y=>QK (y.1.symm.trans e)▸y.2.at n
theorem au.ref(e:h.get w=some c):au L w v->∃p,L w=some p/\v=.r p.1:=W.rec (λ_ e=>aX e) (λe=>aX e) (λ_ _ r=>r) (λ_ _ _ r=>r) (λ_ _ r=>r) (λ_ _ r=>r) w e
theorem av.ref(R:av B L h σ)(e:h.get w=some c)(r:au L w v):∃p,L w=some p/\v=.r p.1/\eH B L σ w p c:=(r.ref e).elim λp y=>(R.cell w c e).elim λq z=>⟨p,y.1,y.2,QK (z.1.symm.trans y.1)▸z.2⟩
end
section
variable{α:Type}{l:List α}{y:α}{k j:Nat}
theorem iw(h:aV l k≠none):aV (upd l k y) j=if j=k then some y else aV l j:=by
 refine aa idx_eq (aa idx_eq (aa pb (aa (YW) ?_)));by_cases e:j=k
 ·exact aa (QR e.symm) (aa (QR e) (aa (QR (Nat.lt_of_not_le λq=>h (idx_eq.trans (SN q)))) rfl))
 ·exact aa (QP (UG e)) (aa (QP e) rfl)
theorem Lq{o:Option (Option α)}(h:jn o≠none):o≠none:=λe=>h (e▸rfl)
theorem kr:aV (l++[y]) j=if j=l.length then some y else aV l j:=by
 refine aa idx_eq (aa idx_eq (aa (List.getElem?_append) ?_));by_cases e:j=l.length
 ·(refine aa (QR e) (aa (QP (by lia)) (aa e ?_));rewrite [YX]);rfl
 ·refine aa (QP e) ?_
  by_cases g:j<l.length
  ·exact aa (QR g) rfl
  ·exact aa (QP g) (aa (SN (by simp;lia)) (aa (SN (by lia)) rfl))
end
section
variable{h:Hs}{w w':W}{c c₀:af}
theorem W.xy{k j:Nat}:(W.s j=W.s k)=(j=k):=propext ⟨λe=>by injection e,λe=>e▸rfl⟩
theorem W.Ca{k j:Nat}:(W.t j=W.t k)=(j=k):=propext ⟨λe=>by injection e,λe=>e▸rfl⟩
theorem W.Cb{k j:Nat}{i m:Int}:(W.f j m=W.f k i)=(j=k/\m=i):=propext ⟨λe=>by injection e with a b;exact ⟨a,b⟩,λe=>e.1▸e.2▸rfl⟩
theorem Hs.r5(e:h.get w=some c₀)(n:w.top=false):(h.set w c).get w'=if w'=w then some c else h.get w':=by
 cases w with
 |d _=>exact aX e
 |bb=>exact aX e
 |g _=>exact ff n.symm
 |s k=>cases w' with
  |s j=>
   refine (?_:jn (aV (upd h.p.s k (some c)) j)=_);refine aa (iw (Lq λq=>nomatch(show jn (aV h.p.s k)=some c₀ from e).symm.trans q)) (aa W.xy ?_);by_cases q:j=k
   ·refine aa (QR q) (aa (QR q) ?_);rfl
   ·refine aa (QP q) (aa (QP q) ?_);rfl
  |_=>exact (QP λe=>W.noConfusion e).symm
 |t k=>cases w' with
  |t j=>
   refine (?_:aV (upd h.t k c) j=_);refine aa (iw (λq=>nomatch(show aV h.t k=some c₀ from e).symm.trans q)) (aa W.Ca ?_);by_cases q:j=k
   ·exact aa (QR q) (aa (QR q) rfl)
   ·refine aa (QP q) (aa (QP q) ?_);rfl
  |_=>exact (QP λe=>W.noConfusion e).symm
 |f k i=>cases w' with
  |f j m=>
   refine (?_:(if j=k/\m=i then some c else h.p.f j m)=_);refine aa W.Cb ?_;by_cases q:j=k/\m=i
   ·exact aa (QR q) (aa (QR q) rfl)
   ·refine aa (QP q) (aa (QP q) ?_);rfl
  |_=>exact (QP λe=>W.noConfusion e).symm
theorem nP{α:Type}{o:Option (Option α)}(h:nQ o=true):o=some none:=match o,h with
 |some none,_=>rfl
theorem Hs.t8(h1:h.free w):h.get w=none/\w.top=false:=by
 cases w with
 |d _=>exact h1.elim
 |bb=>exact h1.elim
 |g _=>exact h1.elim
 |s k=>exact ⟨(QQ jn (nP h1):jn (aV h.p.s k)=_),rfl⟩
 |f k i=>exact ⟨h1,rfl⟩
 |t k=>exact ⟨idx_eq.trans (SN (R4 (Eq.symm h1))),rfl⟩
theorem Hs.lL(h1:h.free w):(h.new w c).get w'=if w'=w then some c else h.get w':=by
 cases w with
 |d _=>exact h1.elim
 |bb=>exact h1.elim
 |g _=>exact h1.elim
 |s k=>cases w' with
  |s j=>
   refine (?_:jn (aV (upd h.p.s k (some c)) j)=_);refine aa (iw (nP h1▸Q1 _)) (aa W.xy ?_);by_cases q:j=k
   ·refine aa (QR q) (aa (QR q) ?_);rfl
   ·refine aa (QP q) (aa (QP q) ?_);rfl
  |_=>exact (QP λe=>W.noConfusion e).symm
 |t k=>cases w' with
  |t j=>
   refine (?_:aV (h.t++[c]) j=_);refine aa kr (aa W.Ca (aa h1 ?_));by_cases q:j=h.t.length
   ·exact aa (QR q) (aa (QR q) rfl)
   ·refine aa (QP q) (aa (QP q) ?_);rfl
  |_=>exact (QP λe=>W.noConfusion e).symm
 |f k i=>cases w' with
  |f j m=>
   refine (?_:(if j=k/\m=i then some c else h.p.f j m)=_);refine aa W.Cb ?_;by_cases q:j=k/\m=i
   ·exact aa (QR q) (aa (QR q) rfl)
   ·refine aa (QP q) (aa (QP q) ?_);rfl
  |_=>exact (QP λe=>W.noConfusion e).symm
theorem Hs.qH{p:HP}{t:List af}:(⟨p,[]⟩:Hs).get w=aR w.nt ((⟨p,t⟩:Hs).get w):=by cases w<;>rfl
theorem Hs.Cs{p q:HP}{t:List af}(n:w.nt=false):(⟨p,t⟩:Hs).get w=(⟨q,t⟩:Hs).get w:=by
 cases w with
 |t k=>rfl
 |_=>exact ff n.symm
end
theorem cw{α:Type}{b:Bool}{o:Option α}{x:α}(h:aR b o=some x):b=true/\o=some x:=match b,h with
 |true,h=>⟨rfl,h⟩
section
variable{B:Bs}{L L':Lm}{h:Hs}{σ σ':Map}{w:W}{c c₀:af}{p:Q5×Q5}
theorem av.put(R:av B L h σ)(e:h.get w=some c₀)(el:L w=some p)(n:w.top=false)(hc:eH B L σ' w p c)(k:∀a,a≠p.1->a≠p.2->σ' a=σ a):av B L (h.set w c) σ':=
 ⟨λw' c' e'=>if q:w'=w then by subst q;rw [Hs.r5 e n,QR rfl] at e';exact ⟨p,el,QK e'▸hc⟩ else by
   rw [Hs.r5 e n,QP q] at e';exact (R.cell w' c' e').imp λp' y=>⟨y.1,y.2.mono .refl λn' a ha _=>have s:=R.sep w' w p' p y.1 el q n' n;k a (ha.elim (λe=>e▸s.1.1) λe=>e▸s.2.1) (ha.elim (λe=>e▸s.1.2) λe=>e▸s.2.2)⟩,
  λw' e'=>if q:w'=w then by rw [Hs.r5 e n,QR q] at e';exact nomatch e' else by rw [Hs.r5 e n,QP q] at e';exact R.dh w' e',R.sep,R.gv⟩
def gZ(L:Lm)(w:W)(p:Q5×Q5):Lm:=λx=>if x=w then some p else L x
theorem av.more(R:av B L h σ)(fr:h.free w):Le L (gZ L w p):=λx q e=>if g:x=w then nomatch e.symm.trans (R.dh x (g▸(Hs.t8 fr).1)) else(QP g).trans e
theorem av.new(R:av B L h σ)(fr:h.free w)(f1:σ p.1=none)(f2:σ p.2=none)(k:∀a,σ a≠none->σ' a=σ a)(hc:eH B (gZ L w p) σ' w p c):av B (gZ L w p) (h.new w c) σ':=
 have le:=R.more fr;have old:∀{x q},x≠w->gZ L w p x=some q->L x=some q:=λg e=>(QP g).symm.trans e;have ap:∀{x q},x≠w->x.top=false->gZ L w p x=some q->yW q p:=λg n e=>have y:=R.at (old g e) n;⟨⟨λq=>y.1 (q▸f1),λq=>y.1 (q▸f2)⟩,λq=>y.2 (q▸f1),λq=>y.2 (q▸f2)⟩
 ⟨λw' c' e'=>if q:w'=w then by subst q;rw [Hs.lL fr,QR rfl] at e';exact ⟨p,QR rfl,QK e'▸hc⟩ else by
   rw [Hs.lL fr,QP q] at e';exact (R.cell w' c' e').imp λp' y=>⟨le _ _ y.1,y.2.mono le.lw λn' a _ ha=>k a ha⟩,
  λw' e'=>if q:w'=w then by rw [Hs.lL fr,QR q] at e';exact nomatch e' else by rw [Hs.lL fr,QP q] at e';exact (QP q).trans (R.dh w' e'),
  λx y q r ex ey ne nx ny=>if gx:x=w then
    have gy:=λg=>ne (gx.trans g.symm);have eq:=QK (ex.symm.trans (QR gx));have s:=ap gy ny ey
    eq▸⟨⟨s.1.1.symm,s.2.1.symm⟩,s.1.2.symm,s.2.2.symm⟩
   else if gy:y=w then(QK (ey.symm.trans (QR gy)):r=p)▸ap gx nx ex else R.sep x y q r (old gx ex) (old gy ey) ne nx ny,
  λx w e=>(R.gv x w e).imp_right λy=>y.imp λv y=>⟨y.1,y.2.mono le⟩⟩
theorem qk(n:w.nt=true):Lw L w=Ln L:=by unfold Lw;exact aa n rfl
theorem wQ(n:w.nt=false):Lw L w=L:=by unfold Lw;exact aa n rfl
theorem Bq:Le (Ln L) (Ln (Ln L)):=λw p e=>by
 have q:=(cw e).1;exact (Ln.yes q).trans e
theorem av.drop(R:av B L h σ)(k:∀w p,w.nt=true->w.top=false->L w=some p->σ' p.1=σ p.1/\σ' p.2=σ p.2):av B (Ln L) ⟨h.p,[]⟩ σ':=
 ⟨λw c e=>have e:=cw ((Hs.qH).symm.trans e);(R.cell w c e.2).imp λp y=>⟨(Ln.yes e.1).trans y.1,y.2.mono (by refine aa (qk e.1) (aa (qk e.1) ?_);exact Bq) λn a ha _=>have q:=k w p e.1 n y.1;ha.elim (λe=>e▸q.1) λe=>e▸q.2⟩,
  λw e=>by
   cases n:w.nt with
   |false=>unfold Ln;refine aa n ?_;rfl
   |true=>exact (Ln.yes n).trans (R.dh w (by rw [Hs.qH,n] at e;exact e)),
  λw w' p q e e'=>R.sep w w' p q (cw e).2 (cw e').2,λx w e=>have g:=R.gv x w e;⟨g.1,g.2.imp λv y=>⟨y.1,y.2.nt g.1⟩⟩⟩
def Lb(L L1:Lm):Lm:=λw=>w.nt.rec (L w) (L1 w)
theorem lP{L1:Lm}(n:w.nt=true):Lb L L1 w=L1 w:=by unfold Lb;exact aa n rfl
theorem nE{L1:Lm}(n:w.nt=false):Lb L L1 w=L w:=by unfold Lb;exact aa n rfl
theorem av.cQ{q:HP}{L1:Lm}{σ1:Map}(R1:av B L1 ⟨q,[]⟩ σ1)(e:L1 w=some p):w.nt=true:=by
 cases n:w.nt with
 |true=>rfl
 |false=>exact nomatch e.symm.trans (R1.dh w (by refine aa (Hs.qH (t:=[])) (aa n ?_);rfl))
theorem Lb.le{L1:Lm}(x:Le (Ln L) L1):Le L (Lb L L1):=λw p e=>by
 cases n:w.nt with
 |false=>exact (nE n).trans e
 |true=>exact (lP n).trans (x w p ((Ln.yes n).trans e))
theorem av.j6{q:HP}{L1:Lm}{σ1:Map}(R1:av B L1 ⟨q,[]⟩ σ1):Le L1 (Lb L L1):=λw p e=>(lP (R1.cQ e)).trans e
theorem av.back{q:HP}{L1:Lm}{σ1:Map}(R:av B L h σ)(R1:av B L1 ⟨q,[]⟩ σ1)(x:Le (Ln L) L1)(k1:∀a,σ1 a≠none->σ' a=σ1 a)(k:∀w p,w.nt=false->L w=some p->(σ' p.1=σ p.1/\σ1 p.1=none)/\σ' p.2=σ p.2/\σ1 p.2=none):av B (Lb L L1) ⟨q,h.t⟩ σ':=
 have tf:∀{w:W},w.nt=false->w.top=false:=λ{w} n=>by
  cases w with
  |t _=>rfl
  |_=>exact ff n.symm
 have ap:∀{w w' p r},w.nt=true->w'.nt=false->w.top=false->Lb L L1 w=some p->Lb L L1 w'=some r->yW p r:=λn n' tp e e'=>
  have y:=R1.at ((lP n).symm.trans e) tp;have z:=k _ _ n' ((nE n').symm.trans e')
  ⟨⟨λq=>y.1 (q▸z.1.2),λq=>y.1 (q▸z.2.2)⟩,λq=>y.2 (q▸z.1.2),λq=>y.2 (q▸z.2.2)⟩
 ⟨λw c e=>by
   cases n:w.nt with
   |true=>exact (R1.cell w c (by refine aa (Hs.qH (t:=h.t)) (aa n ?_);exact e)).imp λp y=>⟨(lP n).trans y.1,y.2.mono (Le.lw R1.j6) λ_ a _ ha=>k1 a ha⟩
   |false=>exact (R.cell w c ((Hs.Cs n).trans e)).imp λp y=>⟨(nE n).trans y.1,y.2.mono (Lb.le x).lw λ_ a ha _=>have z:=k w p n y.1;ha.elim (λe=>e▸z.1.1) λe=>e▸z.2.1⟩,
  λw e=>by
   cases n:w.nt with
   |true=>exact (lP n).trans (R1.dh w (by refine aa (Hs.qH (t:=h.t)) (aa n ?_);exact e))
   |false=>exact (nE n).trans (R.dh w ((Hs.Cs n).trans e)),
  λw w' p r e e' ne tp tp'=>by
   cases n:w.nt with
   |true=>cases n':w'.nt with
    |true=>exact R1.sep w w' p r ((lP n).symm.trans e) ((lP n').symm.trans e') ne tp tp'
    |false=>exact ap n n' tp e e'
   |false=>cases n':w'.nt with
    |true=>exact have s:=ap n' n tp' e' e;⟨⟨s.1.1.symm,s.2.1.symm⟩,s.1.2.symm,s.2.2.symm⟩
    |false=>exact R.sep w w' p r ((nE n).symm.trans e) ((nE n').symm.trans e') ne tp tp',
  λx w e=>(R1.gv x w e).imp_right λy=>y.imp λv y=>⟨y.1,y.2.mono R1.j6⟩⟩
end
end
section
open _root_.PySem _root_.PySem.Calls PyProof.Rows
open scoped Classical
def Map.cut(σ:Map)(T:Q5->Prop):Map:=λa=>if T a then none else σ a
def Map.only(σ:Map)(T:Q5->Prop):Map:=λa=>if T a then σ a else none
section
variable{B:Bs}{σ φ τ:Map}{s:QT}{T:Q5->Prop}{a:Q5}{c:Cell}
theorem NF:(σ.cut T).join (σ.only T)=σ:=funext λa=>by
 by_cases q:T a
 ·exact (bf (QR q)).trans (QR q)
 ·cases e:σ a with
  |none=>exact (bf ((QP q).trans e)).trans (QP q)
  |some c=>exact bh ((QP q).trans e)
theorem join_assoc{ρ:Map}:(σ.join τ).join ρ=σ.join (τ.join ρ):=funext λa=>by
 cases e:σ a with
 |some c=>exact (bh (bh e)).trans (bh e).symm
 |none=>cases g:τ a with
  |some c=>exact (bh ((bf e).trans g)).trans ((bf e).trans (bh g)).symm
  |none=>exact (bf ((bf e).trans g)).trans ((bf e).trans (bf g)).symm
theorem ag.give(S:ag B (σ.join τ) φ s)(d:∀a,τ a≠none->σ a=none):ag B σ (τ.join φ) s:=⟨join_assoc▸S.rel,λa q=>if e:τ a=none then Q9.mpr λc g=>nomatch(bh g).symm.trans (S.cA a λz=>q ((bf e).trans z)) else d a e⟩
theorem ag.take(S:ag B σ (τ.join φ) s)(d:∀a,φ a≠none->τ a=none):ag B (σ.join τ) φ s:=⟨join_assoc.symm▸S.rel,λa q=>have e:=d a q;(bf (S.cA a λz=>q ((bf e).symm.trans z))).trans e⟩
theorem Calls.frame{n:Nat}{f:String}{vs:List V}{Q:V->Map->Prop}{X:QI->QI->Map->Prop} T(h:Calls B n f vs (σ.cut T) Q X):Calls B n f vs σ (λv σ'=>∃σ1,Q v σ1/\σ'=σ1.join (σ.only T)/\∀a,σ.only T a≠none->σ1 a=none) X:=λA φ s l u us hu hf hl hd hn hh S r=>
 have d1:=λa q=>if e:T a then QR e else absurd (QP e) q;have d2:=λa q=>if e:T a then(QR e).trans (S.cA a q) else QP e;have sb:Sub φ ((σ.only T).join φ):=λa c e=>(bf (d2 a (e▸Q1 c))).trans e
 RF (h A ((σ.only T).join φ) s l u us hu hf (hl.more sb) hd hn hh (((NF).symm▸S:ag B ((σ.cut T).join (σ.only T)) φ s).give d1) r)
  (λu s' P=>P.elim λv σ1 q r S' tk=>⟨v,_,⟨σ1,q,rfl,λa g=>S'.cA a ((Rw.mp g).elim λc e=>(bh e).symm▸Q1 c)⟩,r,S'.take d2,tk⟩) λe s' x=>x.less sb
theorem Calls.mono{n:Nat}{f:String}{vs:List V}{Q Q':V->Map->Prop}{X X':QI->QI->Map->Prop}(h:Calls B n f vs σ Q X)(k:∀v σ,Q v σ->Q' v σ)(kx:∀p q σ,X p q σ->X' p q σ):Calls B n f vs σ Q' X':=λA φ s l u us hu hf hl hd hn hh S r=>
 RF (h A φ s l u us hu hf hl hd hn hh S r) (λ_ _ P=>P.elim λv σ1 q r S' tk=>⟨v,σ1,k _ _ q,r,S',tk⟩) λ_ _ x=>cm x λp q σ1 η y x=>⟨p,q,σ1,η,y,kx _ _ _ x.1,x.2⟩
end
section
variable{c:Cx}{σ:Map}{e:E}{es:Es}
theorem Ev.mono{Q Q':V->Map->Prop}(h:Ev c e σ Q)(k:∀v σ,Q v σ->Q' v σ):Ev c e σ Q':=λA env sc φ s z t m S=>aG (h A env sc φ s z t m S) (λ_ _ P=>P.elim λv σ1 q r S' tk=>⟨v,σ1,k _ _ q,r,S',tk⟩)
theorem Ts.mono{Q Q':Bool->Map->Prop}(h:Ts c e σ Q)(k:∀b σ,Q b σ->Q' b σ):Ts c e σ Q':=λA env sc φ s z t m S=>aG (h A env sc φ s z t m S) (λ_ _ P=>P.elim λσ1 q S' tk=>⟨σ1,k _ _ q,S',tk⟩)
theorem cM.mono{Q Q':List V->Map->Prop}(h:cM c es σ Q)(k:∀vs σ,Q vs σ->Q' vs σ):cM c es σ Q':=λA env sc φ s z t m S=>aG (h A env sc φ s z t m S) (λ_ _ P=>P.elim λvs σ1 q r S' tk=>⟨vs,σ1,k _ _ q,r,S',tk⟩)
end
def Lf(B:Bs)(L:Lm)(Q:W->Hs->Prop)(v:V)(σ:Map):Prop:=∃L' w h,Le L L'/\av B L' h σ/\au L' w v/\Q w h
def iQ(B:Bs)(L:Lm)(Q:Bool->Hs->Prop)(b:Bool)(σ:Map):Prop:=∃L' h,Le L L'/\av B L' h σ/\Q b h
def uO(B:Bs)(L:Lm)(Q:List W->Hs->Prop)(vs:List V)(σ:Map):Prop:=∃L' ws h,Le L L'/\av B L' h σ/\ai (au L') ws vs/\Q ws h
def jB(B:Bs)(L:Lm)(Q:W->HP->Prop)(v:V)(σ:Map):Prop:=∃L' w h,Le (Ln L) L'/\av B L' ⟨h,[]⟩ σ/\au L' w v/\Q w h
def kO(B:Bs)(L:Lm)(X:QI->QI->HP->Prop)(p q:QI)(σ:Map):Prop:=∃L' h,Le (Ln L) L'/\av B L' ⟨h,[]⟩ σ/\X p q h
def aq(B:Bs)(n:Nat)(f:String)(ws:List W)(p:HP)(Q:W->HP->Prop)(X:QI->QI->HP->Prop):Prop:=∀(L:Lm) σ vs,av B L ⟨p,[]⟩ σ->ai (au L) ws vs->Calls B n f vs σ (jB B L Q) (kO B L X)
theorem aq.le{B:Bs}{n m:Nat}{f:String}{ws:List W}{p:HP}{Q:W->HP->Prop}{X:QI->QI->HP->Prop}(h:aq B n f ws p Q X)(e:n<=m):aq B m f ws p Q X:=λL σ vs R r=>(h L σ vs R r).le e
theorem aq.mono{B:Bs}{n:Nat}{f:String}{ws:List W}{p:HP}{Q Q':W->HP->Prop}{X X':QI->QI->HP->Prop}(h:aq B n f ws p Q X)(k:∀w p,Q w p->Q' w p)(kx:∀a b p,X a b p->X' a b p):aq B n f ws p Q' X':=λL σ vs R r=>
 (h L σ vs R r).mono (λv σ y=>az y λL' w h y=>⟨L',w,h,y.1,y.2.1,y.2.2.1,k w h y.2.2.2⟩) λa b σ y=>ao y λL' h y=>⟨L',h,y.1,y.2.1,kx a b h y.2.2⟩
section
variable{B:Bs}{L L':Lm}{σ:Map}{h:Hs}
theorem Lf.more{Q:W->Hs->Prop}{v:V}(x:Le L L')(y:Lf B L' Q v σ):Lf B L Q v σ:=az y λL'' w h y=>⟨L'',w,h,x.trans y.1,y.2⟩
theorem iQ.more{Q:Bool->Hs->Prop}{b:Bool}(x:Le L L')(y:iQ B L' Q b σ):iQ B L Q b σ:=ao y λL'' h y=>⟨L'',h,x.trans y.1,y.2⟩
theorem uO.more{Q:List W->Hs->Prop}{vs:List V}(x:Le L L')(y:uO B L' Q vs σ):uO B L Q vs σ:=az y λL'' w h y=>⟨L'',w,h,x.trans y.1,y.2⟩
theorem kO.more{X:QI->QI->HP->Prop}{p q:QI}(x:Le L L')(y:kO B L' X p q σ):kO B L X p q σ:=ao y λL'' h y=>⟨L'',h,x.ln.trans y.1,y.2⟩
theorem jB.more{Q:W->HP->Prop}{v:V}(x:Le L L')(y:jB B L' Q v σ):jB B L Q v σ:=az y λL'' w h y=>⟨L'',w,h,x.ln.trans y.1,y.2⟩
theorem Lf.now{Q:W->Hs->Prop}{w:W}{v:V}(R:av B L h σ)(r:au L w v)(q:Q w h):Lf B L Q v σ:=⟨L,w,h,.refl,R,r,q⟩
theorem y1{ws:List W}{vs:List V}(r:ai (au L) ws vs):fW ws=true->ai (au (Ln L)) ws vs:=r.rec (λ_=>.nil) λ{w v _ _} r _ ih n=>.cons (r.nt (ae n).1) (ih (ae n).2)
def vr(L:Lm)(a:Q5):Prop:=∃w p,w.nt=false/\L w=some p/\(a=p.1\/a=p.2)
theorem aq.at{n:Nat}{f:String}{ws:List W}{vs:List V}{Q:W->Hs->Prop}{X:QI->QI->HP->Prop}(c:aq B n f ws h.p (λw p=>Gd w.nt (Q w ⟨p,h.t⟩)) X)(nt:fW ws=true)(R:av B L h σ)(r:ai (au L) ws vs):Calls B n f vs σ (Lf B L Q) (kO B L X):=
 have hT:∀w p,w.nt=true->w.top=false->L w=some p->∀a,a=p.1\/a=p.2->¬vr L a:=λw p n tp e a ha y=>ao y λw' p' ⟨n',e',ha'⟩=>
  have s:=R.sep w w' p p' e e' (λq=>Y2 (n.symm.trans ((QQ W.nt q).trans n'))) tp (by cases w' with|t _=>rfl|_=>exact ff n'.symm)
  ha.elim (λq=>ha'.elim (λq'=>s.1.1 (q.symm.trans q')) λq'=>s.1.2 (q.symm.trans q')) λq=>ha'.elim (λq'=>s.2.1 (q.symm.trans q')) λq'=>s.2.2 (q.symm.trans q')
 (Calls.frame (vr L) (c (Ln L) _ vs (R.drop λw p n tp e=>⟨QP (hT w p n tp e _ (.inl rfl)),QP (hT w p n tp e _ (.inr rfl))⟩) (y1 r nt))).mono
  (λv σ' y=>y.elim λσ1 y=>az y.1 λL1 w p z=>
   have g:=z.2.2.2.get;have le:Le (Ln L) L1:=λw p e=>z.1 w p ((Ln.yes (cw e).1).trans e)
   have R2:=R.back z.2.1 le (λa ha=>(Rw.mp ha).elim λc e=>(y.2.1▸bh e:σ' a=some c).trans e.symm) λw p n e=>
    have tp:=by cases w with|t _=>rfl|_=>exact ff n.symm
    have one:∀a,a=p.1\/a=p.2->σ a≠none->σ' a=σ a/\σ1 a=none:=λa ha ne=>
     have eo:σ.only (vr L) a=σ a:=QR ⟨w,p,n,e,ha⟩;have n1:=y.2.2 a (eo▸ne)
     ⟨y.2.1▸(bf n1).trans eo,n1⟩
    ⟨one _ (.inl rfl) (R.at e tp).1,one _ (.inr rfl) (R.at e tp).2⟩
   ⟨Lb L L1,w,⟨p,h.t⟩,Lb.le le,R2,z.2.2.1.mono z.2.1.j6,g.2⟩)
  λa b σ' y=>ao y λL' h y=>⟨L',h,λw p e=>y.1 w p ((Ln.yes (cw e).1).trans e),y.2⟩
end
end
section
open _root_.PySem
open scoped Classical
structure Wk where
 B:Bs
 n:Nat
 h:Bool
 x:Option (String×QI×QI)
 κ:Ro
 X:QI->QI->HP->Prop
structure Wc extends Wk where
 ρ:Ro
structure Kw where
 ay:Ro->Hs->Prop
 ret:W->HP->Prop
 cnt:Ro->Hs->Prop
noncomputable def Wc.at(c:Wc)(ρ:Ro):Wc:=⟨c.toWk,ρ⟩
noncomputable def Wc.el(c:Wc)(x:String)(w:W):Wc:=⟨⟨c.B,c.n,c.h,none,[],λ_ _ _=>False⟩,(x,w)::c.ρ⟩
def fm(ws:List W):Option (List QI):=ws.rec (some []) λw _ r=>w.dat.bind λd=>r.map λds=>d::ds
noncomputable def mV(d:QI):Option Str:=d.casesOn none (λ_=>none) (λ_=>none) some (λ_=>none) (λ_=>none) λ_=>none
noncomputable def sZ(i:Int):Option Nat:=i.casesOn some λ_=>none
def bE(i:Int):Bool:=i.rec (λn=>Si n 4611686018427387904) λn=>Si n 4611686018427387903
def y4(c:af):List W:=c.rec id (λ_ l=>l.map (·.2)) (λ_ l=>l.map (·.2)) []
def j1(w x:W):Bool:=w.nt.rec true x.nt
inductive gz(h:Hs) c(Q:W->Hs->Prop):Prop where
 |mk w (f:h.free w) (q:Gd (w.nt.rec true (fW (y4 c))) (Q w (h.new w c)))
theorem gz.elim{h:Hs}{c:af}{Q:W->Hs->Prop}{P:Prop}(n:gz h c Q)(k:∀w,h.free w/\Gd (w.nt.rec true (fW (y4 c))) (Q w (h.new w c))->P):P:=n.casesOn λw f q=>k w ⟨f,q⟩
abbrev qV{α:Type}(Q:α->Hs->Prop)(h:Hs)(v:α):Prop:=Q v h
abbrev qD(Q:W->Hs->Prop)(h:Hs)(d:QI):Prop:=Q (.d d) h
abbrev HU(Q:W->Hs->Prop)(h:Hs)(i:Int):Prop:=Q (.d (.int (-i))) h
abbrev Ig(Q:W->Hs->Prop)(h:Hs)(b:Bool):Prop:=Q (.d (.bool b)) h
abbrev Ae(Q:W->Hs->Prop)(h:Hs)(k:Nat):Prop:=Q (.d (.int k)) h
abbrev H0(Q:W->Hs->Prop)(h:Hs)(i:Nat):Prop:=Gd (Si i ah) (Ae Q h i)
abbrev Ai(Q:W->Hs->Prop)(t:List af)(w:W)(p:HP):Prop:=Gd w.nt (Q w ⟨p,t⟩)
abbrev q2(f:Hs->(W->Hs->Prop)->Prop)(F:W->W->Hs->Prop)(v:W)(h:Hs):Prop:=f h (F v)
abbrev q3(f g:Hs->(W->Hs->Prop)->Prop)(F:W->W->W->Hs->Prop)(v:W)(h:Hs):Prop:=f h (q2 g (F v))
def PU(x y:QI):Option QI:=x.casesOn none (λ_=>none) (λi=>(intD y).map λj=>.int (i+j)) (λa=>(mV y).bind λb=>aR (Si (a.length+b.length) ah&&aP (.str (a++b))) (some (.str (a++b)))) (λ_=>none) (λxs=>(k9 y).bind λys=>aR (aP (.tuple (xs++ys))) (some (.tuple (xs++ys)))) λ_=>none
noncomputable def km(x y:QI)(f:Int->Int->Option Int):Option QI:=(intD x).bind λi=>(intD y).bind λj=>(f i j).map .int
def yt(op:SX)(x y:QI):Option QI:=op.casesOn (PU x y) (km x y λi j=>some (i -j)) (km x y λi j=>aR (bE i&&bE j) (some (i*j))) none none (km x y λi j=>aR (decide (0<j)) (some (i.fmod j))) none
 (km x y λi j=>aR (decide (0<=j)&&decide (j<40)&&bE i) (some (i*2^j.toNat))) none (km x y λi j=>some (WH i j)) none none (km x y λi j=>aR (decide (0<j)&&decide (j<1000000000)) (some (i.fdiv j)))
noncomputable def isAdd(op:SX):Bool:=op.casesOn true false false false false false false false false false false false false
def yr(op:SX)(v u:W):Option QI:=v.dat.bind λx=>u.dat.bind λy=>yt op x y
abbrev O6(h:Hs)(l:List W)(Q:W->Hs->Prop)(k:List W):Prop:=Gd (Si (l.length+k.length) ah) (gz h (.lst (l++k)) Q)
abbrev O7(h:Hs)(op:SX)(u:W)(Q:W->Hs->Prop)(l:List W):Prop:=Gd (isAdd op) (Wo (d6 (h.get u)) (O6 h l Q))
def kU(h:Hs)(op:SX)(v u:W)(Q:W->Hs->Prop):Prop:=(d6 (h.get v)).rec (Wo (yr op v u) (qD Q h)) (O7 h op u Q)
abbrev MX(op:SX)(Q:W->Hs->Prop)(v u:W)(h:Hs):Prop:=kU h op v u Q
noncomputable def lT(t t':Nat):Bool:=t' !=0&&(t==0||t==t')
def oz(h:Hs)(v:W):Option QI:=(d6 (h.get v)).rec v.dat λl=>(fm l).map .list
def nR(v:W):Bool:=v.rec (λd=>d.casesOn true (λ_=>false) (λ_=>false) (λ_=>false) (λ_=>false) (λ_=>false) λ_=>false) false (λ_=>false) (λ_ _=>false) (λ_=>false) λ_=>false
def W.h6(w:W):Bool:=w.rec (λ_=>false) true (λ_=>false) (λ_ _=>false) (λ_=>false) λ_=>false
def mj(h:Hs)(v u:W):Option Bool:=v.h6.rec ((oz h v).rec none λd=>(oz h u).rec none λe=>some (Rk d e)) (u.tup.map λ_=>false)
def qE(h:Hs)(v u:W):Option Bool:=v.dat.bind λx=>(h.get u).rec (u.dat.bind λy=>(k9 y).rec ((mV x).bind λa=>(mV y).map λb=>!(Tn b a 0 b.length 1).isEmpty) λys=>some (ys.any λy=>Rk y x))
 λc=>c.rec (λl=>(fm l).map λys=>ys.any λy=>Rk y x) (λt l=>aR (lT t (kd x)) (some (a5 l x).isSome)) (λ_ _=>none) none
def wX(v u:W):Option Bool:=v.int.rec none λi=>u.int.rec none λj=>some (decide (i<j))
def w9(v u:W):Option Bool:=v.int.rec none λi=>u.int.rec none λj=>some (decide (i<=j))
def kB(h:Hs)(op:Wz)(v u:W):Option Bool:=op.casesOn (mj h v u) (v.h6.rec ((mj h v u).map λb=>!b) none) (wX v u) (w9 v u) (wX u v) (w9 u v) (aR (nR u) (some (nR v))) (aR (nR u) (some (!nR v))) (qE h v u) (aR ((u.dat.bind mV).rec true λ_=>false) ((qE h v u).map λb=>!b))
noncomputable def FW(d:QI):Option Bool:=d.casesOn (some false) some (λi=>some (i !=0)) (λ_=>none) (λ_=>none) (λxs=>some (!xs.isEmpty)) λ_=>none
def pe(v:W):Option Bool:=v.dat.bind FW
def uA(h:Hs)(v:W)(x:String):Option W:=(jd (h.get v)).bind λp=>look p.2 x
def xF(h:Hs)(v k:W):Option W:=(h.get v).rec (v.tup.bind λxs=>k.int.bind λj=>(bZ xs j).map .d) λc=>c.rec (λl=>k.int.bind λj=>bZ l j) (λt l=>k.dat.bind λx=>aR (kd x==t&&t !=0) (a5 l x)) (λ_ _=>none) none
abbrev GO(h:Hs)(lo:Bool)(Q:W->Hs->Prop)(j:Nat)(xs:List QI):Prop:=Gd (Uv j xs.length&&lo.rec true (Uv 1 j)) (Q (.d (.tuple (lo.rec (xs.take j) (xs.drop j)))) h)
abbrev GP(h:Hs)(lo:Bool)(Q:W->Hs->Prop)(j:Nat)(l:List W):Prop:=Gd (Si l.length ah) (gz h (.lst (lo.rec (l.take j) (l.drop j))) Q)
abbrev zI(h:Hs)(lo:Bool)(v:W)(Q:W->Hs->Prop)(j:Nat):Prop:=(d6 (h.get v)).rec (Wo v.tup (GO h lo Q j)) (GP h lo Q j)
def Eh(h:Hs)(lo:Bool)(v k:W)(Q:W->Hs->Prop):Prop:=Wo (k.int.bind sZ) (zI h lo v Q)
abbrev CV(lo:Bool)(Q:W->Hs->Prop)(v k:W)(h:Hs):Prop:=Eh h lo v k Q
def keysOk(T:Nat)(l:List (QI×W)):Bool:=l.rec true λp _ r=>kd p.1==T&&r
def Gg(l:List (QI×W)):List (QI×W):=l.foldl (λr p=>bX r p.1 p.2) []
def lO(h:Hs)(v:W):Option Nat:=(d6 (h.get v)).rec (v.dat.bind λd=>(k9 d).rec ((mV d).bind λx=>aR (Si x.length ah) (some x.length)) λxs=>some xs.length) λl=>aR (Si l.length ah) (some l.length)
def one{α:Type}(l:List α):Option α:=l.rec none λx t _=>t.rec (some x) λ_ _ _=>none
def vj{α:Type}(l:List α):Option (α×α):=l.rec none λx t _=>(one t).map λy=>(x,y)
def vn(h:Hs)(v:W):Option QI:=(d6 (h.get v)).bind λl=>(fm l).bind λds=>aR (aP (.tuple ds)) (some (.tuple ds))
abbrev HG(Q:W->Hs->Prop)(h:Hs)(i:Nat):Prop:=Gd (Si i 1000&&aP (.str (QJ (toString (XZ i))))) (Q (.d (.str (QJ (toString (XZ i))))) h)
abbrev Ic(Q:W->Hs->Prop)(h:Hs)(i:Int):Prop:=Gd (i==96) (Q (.d (.str (QJ "`"))) h)
def yT(c:Wc)(f:String)(ws:List W)(h:Hs)(Q:W->Hs->Prop):Prop:=(f=="len").rec ((f=="tuple").rec ((f=="chr").rec ((f=="str").rec (Gd (fW ws) (aq c.B c.n f ws h.p (Ai Q h.t) c.X))
 (Wo ((one ws).bind λw=>w.int.bind sZ) (HG Q h))) (Wo ((one ws).bind W.int) (Ic Q h))) (Wo ((one ws).bind λw=>vn h w) (qD Q h))) (Wo ((one ws).bind λw=>lO h w) (Ae Q h))
abbrev Ah(c:Wc)(f:String)(Q:W->Hs->Prop)(ws:List W)(h:Hs):Prop:=yT c f ws h Q
def jA(n m f:String):Prop:=n++"."++m=f/\uL.contains f=true
inductive MI(n m)(P:String->Prop):Prop where
 |mk f (k:jA n m f) (p:P f)
theorem MI.elim{n m:String}{P:String->Prop}{R:Prop}(x:MI n m P)(k:∀f,jA n m f/\P f->R):R:=x.casesOn λf a b=>k f ⟨a,b⟩
def LD(h:Hs)(v:W)(ws:List W):Option Nat:=((one ws).bind W.dat).bind λx=>((d6 (h.get v)).bind fm).bind λys=>ys.findIdx? λz=>Rk z x
abbrev Ba(v:W)(Q:W->Hs->Prop)(ws:List W)(h:Hs):Prop:=Wo (LD h v ws) (H0 Q h)
abbrev Kh(v:W)(Q:W->Hs->Prop)(h:Hs)(x:W)(l:List W):Prop:=Gd (Si l.length ah) (Gd (j1 v x) (Q (.d .none) (h.set v (.lst (l++[x])))))
abbrev Ki(v:W)(Q:W->Hs->Prop)(h:Hs)(x:W):Prop:=Wo (d6 (h.get v)) (Kh v Q h x)
abbrev wO(v:W)(Q:W->Hs->Prop)(ws:List W)(h:Hs):Prop:=Wo (one ws) (Ki v Q h)
abbrev Ka(v:W)(Q:W->Hs->Prop)(h:Hs)(p:W×W)(k:QI)(q:Nat×List (QI×W)):Prop:=Gd (lT q.1 (kd k)&&kd k !=2) (Gd (Si q.2.length ah) (Oc (a5 q.2 k) (Gd (j1 v p.2) (Q p.2 (h.set v (.aj (b9 (q.1==0) (kd k) q.1) (q.2++[(k,p.2)]))))) (qV Q h)))
abbrev Kb(v:W)(Q:W->Hs->Prop)(h:Hs)(p:W×W)(k:QI):Prop:=Wo (yc (h.get v)) (Ka v Q h p k)
abbrev Kc(v:W)(Q:W->Hs->Prop)(h:Hs)(p:W×W):Prop:=Wo p.1.dat (Kb v Q h p)
abbrev A9(v:W)(Q:W->Hs->Prop)(ws:List W)(h:Hs):Prop:=Wo (vj ws) (Kc v Q h)
abbrev Ke(Q:W->Hs->Prop)(h:Hs)(p:W×W)(k:QI)(q:Nat×List (QI×W)):Prop:=Gd (lT q.1 (kd k)) (Wo ((a5 q.2 k).rec (some p.2) some) (qV Q h))
abbrev Kf(v:W)(Q:W->Hs->Prop)(h:Hs)(p:W×W)(k:QI):Prop:=Wo (yc (h.get v)) (Ke Q h p k)
abbrev Kg(v:W)(Q:W->Hs->Prop)(h:Hs)(p:W×W):Prop:=Wo p.1.dat (Kf v Q h p)
abbrev Bc(v:W)(Q:W->Hs->Prop)(ws:List W)(h:Hs):Prop:=Wo (vj ws) (Kg v Q h)
abbrev Bb(c:Wc)(f:String)(v:W)(Q:W->Hs->Prop)(ws:List W)(h:Hs):Prop:=Gd (fW (v::ws)) (aq c.B c.n f (v::ws) h.p (Ai Q h.t) c.X)
abbrev Kd(c:Wc)(args:(List W->Hs->Prop)->Prop)(v:W)(Q:W->Hs->Prop)(f:String):Prop:=args (Bb c f v Q)
def iO(c:Wc)(m:String)(args:(List W->Hs->Prop)->Prop)(h:Hs)(v:W)(Q:W->Hs->Prop):Prop:=(h.get v).rec False λbj=>bj.rec
 (λl=>(m=="append").rec (Gd (m=="index") (args (Ba v Q))) (Gd (!v.top) (args (wO v Q))))
 (λt l=>(m=="get").rec (Gd (m=="setdefault") (Gd (!v.top) (args (A9 v Q)))) (args (Bc v Q)))
 (λn l=>(look l m).rec (MI n m (Kd c args v Q)) λ_=>False) False
abbrev HW(c:Wc)(m:String)(f:Hs->(List W->Hs->Prop)->Prop)(Q:W->Hs->Prop)(v:W)(h:Hs):Prop:=iO c m (f h) h v Q
def cc(h:Hs)(v:W):Option (Nat×List W):=(h.get v).rec (v.tup.map λxs=>(0,xs.map .d)) λc=>c.rec (λl=>aR (Si l.length ah) (some (1,l))) (λt l=>aR (t==1&&Si l.length ah) (some (2,l.map λp=>.d p.1))) (λ_ _=>none) none
abbrev gN(f:List W->Hs->Prop)(acc:List W)(u:W)(h:Hs):Prop:=f (acc++[u]) h
abbrev gB(F:W->Hs->(W->Hs->Prop)->Prop)(w:W)(f:List W->Hs->Prop)(acc:List W)(b:Bool)(h:Hs):Prop:=Br b (F w h (gN f acc)) (f acc h)
noncomputable def uY(P:Hs->Prop)(T:W->Hs->(Bool->Hs->Prop)->Prop)(F:W->Hs->(W->Hs->Prop)->Prop)(Q:List W->Hs->Prop):List W->List W->Hs->Prop
 |[],acc,h=>P h/\Q acc h
 |w::l,acc,h=>P h/\T w h (gB F w (uY P T F Q l) acc)
abbrev lF(v:W)(l:Nat×List W)(h:Hs):Prop:=cc h v=some l
abbrev Gp(_:W)(h:Hs)(Q:Bool->Hs->Prop):Prop:=Q true h
abbrev zz{α:Type}(f:Wc->Hs->(α->Hs->Prop)->Prop)(c:Wc)(x:String)(w:W)(h:Hs)(Q:α->Hs->Prop):Prop:=f (c.el x w) h Q
abbrev HT(Q:W->Hs->Prop)(ws:List W)(h:Hs):Prop:=gz h (.lst ws) Q
abbrev Ie(T:W->Hs->(Bool->Hs->Prop)->Prop)(f:Wc->Hs->(W->Hs->Prop)->Prop)(c:Wc)(x:String)(Q:W->Hs->Prop)(v:W)(h:Hs)(l:Nat×List W):Prop:=uY (lF v l) T (zz f c x) (HT Q) l.2 [] h
abbrev Ag(T:W->Hs->(Bool->Hs->Prop)->Prop)(f:Wc->Hs->(W->Hs->Prop)->Prop)(c:Wc)(x:String)(Q:W->Hs->Prop)(v:W)(h:Hs):Prop:=Wo (cc h v) (Ie T f c x Q v h)
def M1(c:Wc)(x f:String):Option QI:=c.x.bind λy=>aR (y.1==x) ((f=="code").rec (aR (f=="at") (some y.2.2)) (some y.2.1))
def oZ(s b:Bool)(P Q:Prop):Prop:=s.rec (Br b Q P) (Br b P Q)
theorem oZ.get{s b:Bool}{P Q:Prop}(h:oZ s b P Q):(b=s->P)/\(b=!s->Q):=match s,h with
 |true,h=>Br.get h
 |false,h=>(Br.get h).symm
abbrev HV(Q:W->Hs->Prop)(v:W)(h:Hs):Prop:=Wo v.int (HU Q h)
abbrev MW(op:Wz)(Q:W->Hs->Prop)(v u:W)(h:Hs):Prop:=Wo (kB h op v u) (Ig Q h)
abbrev MU(op:Wz)(Q:Bool->Hs->Prop)(v u:W)(h:Hs):Prop:=Wo (kB h op v u) (qV Q h)
abbrev Af{α:Type}(f g:Hs->α->Prop)(Q:α)(d:Bool)(h:Hs):Prop:=Br d (f h Q) (g h Q)
abbrev HD(Q:W->Hs->Prop)(h:Hs)(ds:List QI):Prop:=Gd (aP (.tuple ds)) (Q (.d (.tuple ds)) h)
abbrev HC(Q:W->Hs->Prop)(vs:List W)(h:Hs):Prop:=Wo (fm vs) (HD Q h)
abbrev HZ(Q:W->Hs->Prop)(vs:List W)(h:Hs):Prop:=Gd (Uv vs.length 1000) (gz h (.lst vs) Q)
abbrev HI(n:Nat)(Q:W->Hs->Prop)(v:W)(h:Hs):Prop:=gz h (.lst (Q4 n v)) Q
abbrev Ib(Q:W->Hs->Prop)(l:List (QI×W))(h:Hs):Prop:=l.rec (∃t,gz h (.aj t []) Q) λp t _=>Gd (kd p.1 !=0&&Uv (p::t).length 12&&keysOk (kd p.1) (p::t)) (gz h (.aj (kd p.1) (Gg (p::t))) Q)
abbrev Ih(x:String)(Q:W->Hs->Prop)(v:W)(h:Hs):Prop:=Wo (uA h v x) (qV Q h)
abbrev CW(Q:W->Hs->Prop)(v k:W)(h:Hs):Prop:=Wo (xF h v k) (qV Q h)
abbrev vP(Q:Bool->Hs->Prop)(v:W)(h:Hs):Prop:=Wo (pe v) (qV Q h)
abbrev HS(Q:Bool->Hs->Prop)(b:Bool)(h:Hs):Prop:=Q (!b) h
abbrev H3(v:W)(Q:List W->Hs->Prop)(vs:List W)(h:Hs):Prop:=Q (v::vs) h
abbrev H2(f:Hs->(List W->Hs->Prop)->Prop)(Q:List W->Hs->Prop)(v:W)(h:Hs):Prop:=f h (H3 v Q)
abbrev HO(Q:List (QI×W)->Hs->Prop)(k:QI)(v:W)(l:List (QI×W))(h:Hs):Prop:=Q ((k,v)::l) h
abbrev HQ(g:Hs->(List (QI×W)->Hs->Prop)->Prop)(Q:List (QI×W)->Hs->Prop)(k:QI)(v:W)(h:Hs):Prop:=g h (HO Q k v)
abbrev HR(f:Hs->(W->Hs->Prop)->Prop)(g:Hs->(List (QI×W)->Hs->Prop)->Prop)(Q:List (QI×W)->Hs->Prop)(h:Hs)(k:QI):Prop:=f h (HQ g Q k)
abbrev HN(f:Hs->(W->Hs->Prop)->Prop)(g:Hs->(List (QI×W)->Hs->Prop)->Prop)(Q:List (QI×W)->Hs->Prop)(k:W)(h:Hs):Prop:=Wo k.dat (HR f g Q h)
abbrev HF(s:Bool)(f:Hs->(Bool->Hs->Prop)->Prop)(Q:Bool->Hs->Prop)(b:Bool)(h:Hs):Prop:=oZ s b (Q s h) (f h Q)
abbrev HH(s:Bool)(f:Hs->(W->Hs->Prop)->Prop)(Q:W->Hs->Prop)(v:W)(h:Hs)(b:Bool):Prop:=oZ s b (Q v h) (f h Q)
abbrev HE(s:Bool)(f:Hs->(W->Hs->Prop)->Prop)(Q:W->Hs->Prop)(v:W)(h:Hs):Prop:=Wo (pe v) (HH s f Q v h)
mutual
noncomputable def aZ:E->Wc->Hs->(W->Hs->Prop)->Prop
 |.lit d,c,h,Q=>Q (.d d) h
 |.lK,c,h,Q=>Q .bb h
 |.lv x,c,h,Q=>Wo (look c.ρ x) (qV Q h)
 |.gv x,c,h,Q=>Wo (look uZ x) (qV Q h)
 |.gk _ d,c,h,Q=>Q (.d d) h
 |.neg e,c,h,Q=>aZ e c h (HV Q)
 |.bin op a b,c,h,Q=>aZ a c h (q2 (aZ b c) (MX op Q))
 |.cmp op a b,c,h,Q=>aZ a c h (q2 (aZ b c) (MW op Q))
 |.bor es,c,h,Q=>rD es true c h Q
 |.band es,c,h,Q=>rD es false c h Q
 |.nt _,_,_,_=>False
 |.fZ t a b,c,h,Q=>jO t c h (Af (aZ a c) (aZ b c) Q)
 |.tup es,c,h,Q=>eR es c h (HC Q)
 |.lst es,c,h,Q=>eR es c h (HZ Q)
 |.rep e n,c,h,Q=>aZ e c h (HI n Q)
 |.aj es,c,h,Q=>u9 es c h (Ib Q)
 |.aF e x,c,h,Q=>aZ e c h (Ih x Q)
 |.iG x f,c,h,Q=>Wo (M1 c x f) (qD Q h)
 |.idx a b,c,h,Q=>aZ a c h (q2 (aZ b c) (CW Q))
 |.lr a b,c,h,Q=>aZ a c h (q2 (aZ b c) (CV true Q))
 |.ly a b,c,h,Q=>aZ a c h (q2 (aZ b c) (CV false Q))
 |.call f es,c,h,Q=>Gd (!c.h) (eR es c h (Ah c f Q))
 |.met e m es,c,h,Q=>Gd (!c.h) (aZ e c h (HW c m (eR es c) Q))
 |.comp x it el,c,h,Q=>Gd (!c.h) (aZ it c h (Ag Gp (aZ el) c x Q))
 |.gj x it t el,c,h,Q=>Gd (!c.h) (aZ it c h (Ag (zz (jO t) c x) (aZ el) c x Q))
noncomputable def jO:E->Wc->Hs->(Bool->Hs->Prop)->Prop
 |.lv x,c,h,Q=>Wo (look c.ρ x) (qV (vP Q) h)
 |.idx a b,c,h,Q=>aZ a c h (q2 (aZ b c) (CW (vP Q)))
 |.call f es,c,h,Q=>Gd (!c.h) (eR es c h (Ah c f (vP Q)))
 |.cmp op a b,c,h,Q=>aZ a c h (q2 (aZ b c) (MU op Q))
 |.bor es,c,h,Q=>rE es true c h Q
 |.band es,c,h,Q=>rE es false c h Q
 |.nt e,c,h,Q=>jO e c h (HS Q)
 |_,_,_,_=>False
noncomputable def eR:Es->Wc->Hs->(List W->Hs->Prop)->Prop
 |.nil,c,h,Q=>Q [] h
 |.cons e es,c,h,Q=>aZ e c h (H2 (eR es c) Q)
noncomputable def u9:Es->Wc->Hs->(List (QI×W)->Hs->Prop)->Prop
 |.nil,c,h,Q=>Q [] h
 |.cons e .nil,c,h,Q=>False
 |.cons e (.cons e' es),c,h,Q=>aZ e c h (HN (aZ e' c) (u9 es c) Q)
noncomputable def rE:Es->Bool->Wc->Hs->(Bool->Hs->Prop)->Prop
 |.nil,s,c,h,Q=>Q (!s) h
 |.cons e es,s,c,h,Q=>jO e c h (HF s (rE es s c) Q)
noncomputable def rD:Es->Bool->Wc->Hs->(W->Hs->Prop)->Prop
 |.nil,s,c,h,Q=>False
 |.cons e .nil,s,c,h,Q=>aZ e c h Q
 |.cons e (.cons e' es),s,c,h,Q=>aZ e c h (HE s (rD (.cons e' es) s c) Q)
end
def DZ(xs:List String):List QI->Ro->Ro:=xs.rec (λ_ ρ=>ρ) λx _ f ds ρ=>ds.casesOn ρ λd ds=>f ds (dk ρ x (.d d))
abbrev qN(K:Kw)(h:Hs)(ρ:Ro):Prop:=K.ay ρ h
abbrev F4(xs:List String)(ρ:Ro)(Q:Ro->Prop)(ds:List QI):Prop:=Gd (Uv 2 xs.length&&Uu ds.length xs.length) (Q (DZ xs ds ρ))
def gY(xs:List String)(v:W)(ρ:Ro)(Q:Ro->Prop):Prop:=(one xs).rec (Wo v.tup (F4 xs ρ Q)) λx=>Q (dk ρ x v)
abbrev mF(x:String)(v:W)(ρ:Ro)(Q:Ro->Prop):Prop:=Q (dk ρ x v)
abbrev GF(h:Hs)(v w:W)(Q:Hs->Prop)(l:List W)(n:Nat):Prop:=Gd (Si n ah&&Si n l.length) (Q (h.set v (.lst (upd l n w))))
abbrev GD(h:Hs)(v w:W)(Q:Hs->Prop)(t:Nat)(l:List (QI×W))(x:QI):Prop:=Gd (lT t (kd x)) (Gd (Si l.length ah) (Q (h.set v (.aj (b9 (t==0) (kd x) t) (bX l x w)))))
def Ei(h:Hs)(v k w:W)(Q:Hs->Prop):Prop:=Gd (!v.top&&j1 v w) ((h.get v).rec False λc=>c.rec
 (λl=>Wo (k.int.bind sZ) (GF h v w Q l))
 (λt l=>Wo k.dat (GD h v w Q t l))
 (λ_ _=>False) False)
def bz(ρ' ρ:Ro):Prop:=ρ'.rec True λp _ r=>look ρ p.1=some p.2/\r
inductive Sb ρ(N:Ro->Prop):Prop where
 |mk ρ' (s:bz ρ' ρ) (n:N ρ')
theorem Sb.elim{ρ:Ro}{N:Ro->Prop}{R:Prop}(x:Sb ρ N)(k:∀ρ',bz ρ' ρ/\N ρ'->R):R:=x.casesOn λa b d=>k a ⟨b,d⟩
abbrev tB(body:Ro->Hs->Kw->Prop)(f:Ro->Hs->Prop)(K:Kw)(h:Hs)(ρ:Ro):Prop:=body ρ h ⟨f,K.ret,f⟩
abbrev tN(T:W->Ro->(Ro->Prop)->Prop)(x:W)(body:Ro->Hs->Kw->Prop)(f:Ro->Hs->Prop)(K:Kw)(h:Hs)(ρ:Ro):Prop:=T x ρ (tB body f K h)
noncomputable def bI(P:Hs->Prop)(T:W->Ro->(Ro->Prop)->Prop)(body:Ro->Hs->Kw->Prop)(K:Kw):List W->Ro->Hs->Prop
 |[],ρ,h=>P h/\Sb ρ (qN K h)
 |x::l,ρ,h=>P h/\Sb ρ (tN T x body (bI P T body K l) K h)
noncomputable def fA(a b:Int):List W:=(RP (b -a).toNat).map λk:Nat=>.d (.int (a+k))
noncomputable def oq:Nat->List QI->List W
 |_,[]=>[]
 |k,d::ds=>.d (.tuple [.int k,d])::oq (k+1) ds
def cS{α:Type}(o:Option α):Bool:=o.rec true λ_=>false
noncomputable def Wc.hand(c:Wc)(x:String)(p q:QI)(y:String)(w:W):Wc:=⟨⟨c.B,c.n,true,some (x,p,q),[],λ_ _ _=>False⟩,[(y,w)]⟩
noncomputable def Wc.tr(c:Wc)(g:Rn)(y:String)(w:W)(X:QI->QI->HP->Prop):Wc:=⟨⟨c.B.cF g,c.n,c.h,c.x,[(y,w)],X⟩,c.ρ⟩
abbrev Sq(f:Wc->Hs->Kw->Prop)(C:Wk)(K:Kw)(ρ:Ro)(h:Hs):Prop:=f ⟨C,ρ⟩ h K
abbrev bS(f:Wc->Hs->Kw->Prop)(C:Wk)(ρ:Ro)(h:Hs)(K:Kw):Prop:=f ⟨C,ρ⟩ h K
abbrev Ii(x:String)(c:Wc)(K:Kw)(v:W)(h:Hs):Prop:=K.ay (dk c.ρ x v) h
abbrev Ik(xs:List String)(c:Wc)(K:Kw)(v:W)(h:Hs):Prop:=gY xs v c.ρ (qN K h)
abbrev Il(x:String)(c:Wc)(K:Kw)(w v:W)(h:Hs)(p:String×Ro):Prop:=Gd (Si p.2.length ah&&j1 v w) (K.ay c.ρ (h.set v (.obj p.1 (dk p.2 x w))))
abbrev MZ(x:String)(c:Wc)(K:Kw)(w v:W)(h:Hs):Prop:=Wo (jd (h.get v)) (Il x c K w v h)
abbrev MY(c:Wc)(K:Kw)(w v k:W)(h:Hs):Prop:=Ei h v k w (K.ay c.ρ)
abbrev H4(x:String)(c:Wc)(K:Kw)(i:Int)(h:Hs)(j:Int):Prop:=K.ay (dk c.ρ x (.d (.int (i+j)))) h
abbrev H5(x:String)(c:Wc)(K:Kw)(i:Int)(v:W)(h:Hs):Prop:=Wo v.int (H4 x c K i h)
abbrev Ij(f:Hs->(W->Hs->Prop)->Prop)(x:String)(c:Wc)(K:Kw)(h:Hs)(i:Int):Prop:=f h (H5 x c K i)
abbrev H8(c:Wc)(K:Kw)(_:W)(h:Hs):Prop:=K.ay c.ρ h
abbrev Ad(K:Kw)(v:W)(h:Hs):Prop:=Gd v.nt (K.ret v h.p)
abbrev AJ(J:Nat->Ro->Hs->Prop)(k:Nat)(ρ:Ro)(h:Hs):Prop:=∃m,m<k/\∃ρ',bz ρ' ρ/\J m ρ' h
abbrev HB(f:Hs->Kw->Prop)(J:Nat->Ro->Hs->Prop)(k:Nat)(K:Kw)(ρ:Ro)(d:Bool)(h:Hs):Prop:=Br d (f h ⟨AJ J k,K.ret,AJ J k⟩) (K.ay ρ h)
abbrev gF(_:Hs):Prop:=True
abbrev H7(xs:List String)(f:Wc->Hs->Kw->Prop)(c:Wc)(K:Kw)(v:W)(h:Hs)(l:Nat×List W):Prop:=c.rec λC ρ=>bI (lF v l) (gY xs) (bS f C) K l.2 ρ h
abbrev H6(xs:List String)(f:Wc->Hs->Kw->Prop)(c:Wc)(K:Kw)(v:W)(h:Hs):Prop:=Wo (cc h v) (H7 xs f c K v h)
abbrev HK(x:String)(f:Wc->Hs->Kw->Prop)(c:Wc)(K:Kw)(i:Int)(h:Hs)(j:Int):Prop:=Gd (bE i&&bE j) (c.rec λC ρ=>bI gF (mF x) (bS f C) K (fA i j) ρ h)
abbrev HL(x:String)(f:Wc->Hs->Kw->Prop)(c:Wc)(K:Kw)(i:Int)(w:W)(h:Hs):Prop:=Wo w.int (HK x f c K i h)
abbrev HM(g:Hs->(W->Hs->Prop)->Prop)(x:String)(f:Wc->Hs->Kw->Prop)(c:Wc)(K:Kw)(h:Hs)(i:Int):Prop:=g h (HL x f c K i)
abbrev HJ(g:Hs->(W->Hs->Prop)->Prop)(x:String)(f:Wc->Hs->Kw->Prop)(c:Wc)(K:Kw)(v:W)(h:Hs):Prop:=Wo v.int (HM g x f c K h)
abbrev HY(x:String)(f:Wc->Hs->Kw->Prop)(c:Wc)(K:Kw)(h:Hs)(j:Int):Prop:=Gd (bE j) (c.rec λC ρ=>bI gF (mF x) (bS f C) K (fA 0 j) ρ h)
abbrev HX(x:String)(f:Wc->Hs->Kw->Prop)(c:Wc)(K:Kw)(w:W)(h:Hs):Prop:=Wo w.int (HY x f c K h)
abbrev Ia(x y:String)(f:Wc->Hs->Kw->Prop)(c:Wc)(K:Kw)(h:Hs)(xs:List QI):Prop:=c.rec λC ρ=>bI gF (gY [x,y]) (bS f C) K (oq 0 xs) ρ h
abbrev H9(x y:String)(f:Wc->Hs->Kw->Prop)(c:Wc)(K:Kw)(v:W)(h:Hs):Prop:=Wo v.tup (Ia x y f c K h)
abbrev Hy(c:Wc)(p:QI)(h:Hs)(q:QI):Prop:=c.X p q h.p
abbrev Hz(c:Wc)(p:QI)(w:W)(h:Hs):Prop:=Wo w.dat (Hy c p h)
abbrev HA(g:Hs->(W->Hs->Prop)->Prop)(c:Wc)(h:Hs)(p:QI):Prop:=g h (Hz c p)
abbrev Hx(g:Hs->(W->Hs->Prop)->Prop)(c:Wc)(v:W)(h:Hs):Prop:=Wo v.dat (HA g c h)
mutual
noncomputable def wpS:S->Wc->Hs->Kw->Prop
 |.asg x e,c,h,K=>Gd (cS (look c.κ x)) (aZ e c h (Ii x c K))
 |.fP xs e,c,h,K=>Gd (Uu (kE e) 0&&xs.all λx=>cS (look c.κ x)) (aZ e c h (Ik xs c K))
 |.gp o x e,c,h,K=>aZ e c h (q2 (aZ o c) (MZ x c K))
 |.kD o i e,c,h,K=>aZ e c h (q3 (aZ o c) (aZ i c) (MY c K))
 |.aug x e,c,h,K=>Gd (cS (look c.κ x)&&nk (QJ x)) (Wo ((look c.ρ x).bind W.int) (Ij (aZ e c) x c K h))
 |.ex e,c,h,K=>aZ e c h (H8 c K)
 |.ret e,c,h,K=>aZ e c h (Ad K)
 |.g8,c,h,K=>K.ret (.d .none) h.p
 |.ifs t a b,c,h,K=>jO t c h (Af (aD a c) (aD b c) K)
 |.iX t a,c,h,K=>∃(J:Nat->Ro->Hs->Prop)(n:Nat),(∃ρ',bz ρ' c.ρ/\J n ρ' h)/\∀k ρ h,J k ρ h->jO t (c.at ρ) h (HB (aD a (c.at ρ)) J k K ρ)
 |.jr xs e a,c,h,K=>Gd (xs.all λx=>cS (look c.κ x)) (aZ e c h (H6 xs (aD a) c K))
 |.iC x lo hi a,c,h,K=>Gd (cS (look c.κ x)) (aZ lo c h (HJ (aZ hi c) x (aD a) c K))
 |.f6 x hi a,c,h,K=>Gd (cS (look c.κ x)) (aZ hi c h (HX x (aD a) c K))
 |.js x y e a,c,h,K=>Gd (cS (look c.κ x)&&cS (look c.κ y)) (aZ e c h (H9 x y (aD a) c K))
 |.raise k e1 e2,c,h,K=>Gd (k=="BadImage") (aZ e1 c h (Hx (aZ e2 c) c))
 |.cont,c,h,K=>K.cnt c.ρ h
 |.i5 a k x hd,c,h,K=>∃(y:String)(X:QI->QI->HP->Prop),Gd (k=="BadImage"&&cS (c.κ.head?)&&!(y==x)&&!(QJ x==(".0":Str))) (Wo (look c.ρ y) λw=>Gd w.nt ((∀g,aD a (c.tr g y w X) h K)/\∀p q hp,X p q hp->aZ hd (c.hand x p q y w) ⟨hp,[]⟩ (Ad K)))
noncomputable def aD:Ss->Wc->Hs->Kw->Prop
 |.nil,c,h,K=>K.ay c.ρ h
 |.cons s r,c,h,K=>c.rec λC ρ=>wpS s ⟨C,ρ⟩ h ⟨Sq (aD r) C K,K.ret,K.cnt⟩
end
section
variable{B:Bs}{L:Lm}{h:Hs}{σ:Map}{w u:W}{v v':V}{x y d:QI}
theorem cJ(e:w.dat=some x)(r:au L w v):v=.d x:=W.rec (λ_ e r=>QK e▸r) (λe=>aX e) (λ_ e=>aX e) (λ_ _ e=>aX e) (λ_ e=>aX e) (λ_ e=>aX e) w e r
theorem tU{i:Int}(e:intD x=some i):x=.int i:=by cases x with
 |int j=>exact QK e▸rfl
 |_=>exact aX e
theorem rK{xs:List QI}(e:k9 x=some xs):x=.tuple xs:=by cases x with
 |tuple j=>exact QK e▸rfl
 |_=>exact aX e
theorem rV{a:Str}(e:mV x=some a):x=.str a:=by cases x with
 |str j=>exact QK e▸rfl
 |_=>exact aX e
theorem Ly{i:Int}(e:w.int=some i):w.dat=some (.int i):=by
 unfold W.int at e
 cases q:w.dat with
 |none=>rw [q] at e;exact aX e
 |some x=>rw [q] at e;exact QQ some (tU e)
theorem FH{xs:List QI}(e:w.tup=some xs):w.dat=some (.tuple xs):=by
 unfold W.tup at e
 cases q:w.dat with
 |none=>rw [q] at e;exact aX e
 |some x=>rw [q] at e;exact QQ some (rK e)
theorem bind_some{α β:Type}{o:Option α}{f:α->Option β}{b:β}(e:o.bind f=some b):∃a,o=some a/\f a=some b:=W2.mp e
theorem map_some{α β:Type}{o:Option α}{f:α->β}{b:β}(e:o.map f=some b):∃a,o=some a/\f a=b:=RH.mp e
theorem jg{o:Option af}{l:List W}(e:d6 o=some l):o=some (.lst l):=match o,e with
 |some (.lst _),e=>QQ (λl=>some (af.lst l)) (QK e)
theorem x9{o:Option af}{q:Nat×List (QI×W)}(e:yc o=some q):o=some (.aj q.1 q.2):=match o,e with
 |some (.aj _ _),e=>QK e▸rfl
theorem wb{o:Option af}{q:String×Ro}(e:jd o=some q):o=some (.obj q.1 q.2):=match o,e with
 |some (.obj _ _),e=>QK e▸rfl
theorem av.lst{l:List W}(R:av B L h σ)(e:h.get w=some (.lst l))(r:au L w v):∃a l',L w=some (a,a)/\v=.r a/\Own B σ w a (.lst l')/\ai (au (Lw L w)) l l':=(R.ref e r).elim λp y=>y.2.2.2.elim λl' z=>⟨p.1,l',y.1.trans (QQ some (aab rfl y.2.2.1)),y.2.1,z.1,z.2⟩
theorem av.aj{t:Nat}{l:List (QI×W)}(R:av B L h σ)(e:h.get w=some (.aj t l))(r:au L w v):∃a l',L w=some (a,a)/\v=.r a/\Own B σ w a (.aj t l')/\ai (PR (Lw L w)) l l':=(R.ref e r).elim λp y=>y.2.2.2.elim λl' z=>⟨p.1,l',y.1.trans (QQ some (aab rfl y.2.2.1)),y.2.1,z.1,z.2⟩
theorem av.obj{n:String}{l:Ro}(R:av B L h σ)(e:h.get w=some (.obj n l))(r:au L w v):∃p l',L w=some p/\v=.r p.1/\w.top=false/\σ p.1=some (.ins n p.2)/\σ p.2=some (.aF l')/\ai (PR (Lw L w)) l l':=(R.ref e r).elim λp y=>y.2.2.2.elim λl' z=>⟨p,l',y.1,y.2.1,y.2.2.1,z.1,z.2.1,z.2.2⟩
theorem dH{α β:Type}{R:α->β->Prop}{as:List α}{bs:List β}(x:ai R as bs):bs.length=as.length:=x.length.symm
theorem rh{L:Lm}{ws:List W}{vs:List V}(r:ai (au L) ws vs):∀ds:List QI,fm ws=some ds->vs=ds.map V.d:=r.rec (λds e=>(QK e)▸rfl) λ{w v ws vs} r _ ih ds e=>(bind_some (show w.dat.bind (λd=>(fm ws).map λds=>d::ds)=some ds from e)).elim λd y=>(map_some y.2).elim λds' z=>z.2▸(cJ y.1 r).symm▸(ih ds' z.1).symm▸rfl
theorem Kq{l:Ro}{l':List (String×V)}(r:ai (PR L) l l'){x:String}:look l x=some w->∃v,l'.lookup x=some v/\au L w v:=r.rec (λe=>aX e) λ{p q as bs} r _ ih e=>by
 have e:b9 (x==p.1) (some p.2) (look as x)=some w:=e;refine aa Rx (a9 r.1 ?_)
 cases g:x==p.1 with
 |true=>rw [g] at e;exact ⟨q.2,rfl,QK e▸r.2⟩
 |false=>rw [g] at e;exact ih e
theorem Kt{l:Ro}{l':List (String×V)}(r:ai (PR L) l l'){x:String}:look l x=none->l'.lookup x=none:=r.rec (λ_=>rfl) λ{p q as bs} r _ ih e=>by
 have e:b9 (x==p.1) (some p.2) (look as x)=none:=e;refine aa Rx (a9 r.1 ?_)
 cases g:x==p.1 with
 |true=>rw [g] at e;exact nomatch e
 |false=>rw [g] at e;exact ih e
theorem dE{p:QI×W}{l:List (QI×W)}:a5 (p::l) x=if p.1=x then some p.2 else a5 l x:=by
 refine (?_:b9 (qR p.1 x) (some p.2) (a5 l x)=_);by_cases e:p.1=x
 ·refine aa (QR e) (aa (uh.mpr e) ?_);rfl
 ·refine aa (QP e) (aa (WC.mpr λq=>e (uh.mp q)) ?_);rfl
theorem pM{p:QI×W}{l:List (QI×W)}:bX (p::l) x w=if p.1=x then(x,w)::l else p::bX l x w:=by
 refine (?_:b9 (qR p.1 x) ((x,w)::l) (p::bX l x w)=_);by_cases e:p.1=x
 ·refine aa (QR e) (aa (uh.mpr e) ?_);rfl
 ·refine aa (QP e) (aa (WC.mpr λq=>e (uh.mp q)) ?_);rfl
def OR(L:Lm)(o:Option W)(o':Option V):Prop:=o.rec (o'=none) λw=>∃v,o'=some v/\au L w v
theorem tY{l:List (QI×W)}{l':List (QI×V)}(r:ai (PR L) l l'):OR L (a5 l x) (getD l' x):=r.rec rfl λ{p q as bs} r _ ih=>by
 refine aa dE (aa xG (a9 r.1 ?_));by_cases e:p.1=x
 ·refine aa (QR e) (aa (QR e) ?_);exact ⟨q.2,rfl,r.2⟩
 ·refine aa (QP e) (aa (QP e) ?_);exact ih
theorem OR.some{o:Option W}{o':Option V}(r:OR L o o')(e:o=some w):∃v,o'=some v/\au L w v:=by subst e;exact r
theorem OR.is{o:Option W}{o':Option V}(r:OR L o o'):o'.isSome=o.isSome:=by
 cases o with
 |none=>exact r▸rfl
 |some w=>exact Q7 r λv y=>y.1▸rfl
theorem Ao{l:List (QI×W)}{l':List (QI×V)}(r:ai (PR L) l l')(g:au L w v):ai (PR L) (bX l x w) (putD l' x v):=r.rec (.cons ⟨rfl,g⟩ .nil) λ{p q as bs} r t ih=>by
 refine aa pM (aa vS (a9 r.1 ?_));by_cases e:p.1=x
 ·refine aa (QR e) (aa (QR e) ?_);exact .cons ⟨rfl,g⟩ t
 ·refine aa (QP e) (aa (QP e) ?_);exact .cons r ih
theorem Ap{l:Ro}{l':aK}{x:String}(r:ai (PR L) l l')(g:au L w v):ai (PR L) (dk l x w) (fE l' x v):=r.rec (.cons ⟨rfl,g⟩ .nil) λ{p q as bs} r t ih=>by
 refine (?_:ai (PR L) (b9 (p.1==x) ((x,w)::as) (p::dk as x w)) (if q.1=x then(x,v)::bs else q::fE bs x v));by_cases e:p.1=x
 ·refine aa (Q6.mpr e) (aa (QR (r.1▸e)) ?_);exact .cons ⟨rfl,g⟩ t
 ·refine aa (Q3.mpr e) (aa (QP (r.1▸e)) ?_);exact .cons r ih
theorem Kr{l:Ro}{x y:String}{w':W}(e:look (dk l x w) y=some w'):(y=x/\w'=w)\/(y≠x/\look l y=some w'):=by
 have key:look (dk l x w) y=b9 (y==x) (some w) (look l y):=l.rec rfl λp t ih=>by
  refine (?_:look (b9 (p.1==x) ((x,w)::t) (p::dk t x w)) y=b9 (y==x) (some w) (b9 (y==p.1) (some p.2) (look t y)));by_cases e:p.1=x
  ·refine aa (Q6.mpr e) (aa e ?_)
   refine (?_:b9 (y==x) (some w) (look t y)=_)
   cases y==x<;>rfl
  ·refine aa (Q3.mpr e) ?_
   refine (?_:b9 (y==p.1) (some p.2) (look (dk t x w) y)=_);refine aa ih ?_;by_cases g:y=p.1
   ·refine aa (Q6.mpr g) (aa (Q3.mpr (λq=>e (g.symm.trans q))) ?_);rfl
   ·refine aa (Q3.mpr g) ?_;rfl
 rw [key] at e;by_cases g:y=x
 ·rw [Q6.mpr g] at e;exact .inl ⟨g,(QK e).symm⟩
 ·rw [Q3.mpr g] at e;exact .inr ⟨g,e⟩
end
section
variable{B:Bs}{L:Lm}{h:Hs}{σ:Map}{w u x:W}{v k:V}{Q:W->Hs->Prop}
theorem W.Qy(n:w.dat=none)(nb:w.h6=false)(r:au L w v):∃p,L w=some p/\v=.r p.1:=by cases w with
 |d _=>exact nomatch n
 |bb=>exact ff nb.symm
 |_=>exact r
theorem d8{i:Int}(e:w.int=some i)(r:au L w v):v=.d (.int i):=cJ (Ly e) r
theorem mO{xs:List QI}(e:w.tup=some xs)(r:au L w v):v=.d (.tuple xs):=cJ (FH e) r
theorem NB{d:QI}(r:au L w (.d d)):w.dat=some d:=by cases w with
 |d x=>exact QQ some (V.d.inj r).symm
 |bb=>exact nomatch r
 |_=>exact Q7 r λp y=>nomatch y.2
theorem wD{i:Int}{n:Nat}(e:sZ i=some n):i=n:=match i,e with
 |.ofNat m,e=>QQ XZ (QK e)
theorem L5(R:av B L h σ)(rv:au L w v)(rk:au L u k)(e:xF h w u=some x)(q:Q x h):KGet B (Lf B L Q) σ v k:=by
 unfold xF at e
 cases g:h.get w with
 |none=>
  rw [g] at e;exact (bind_some e).elim λxs y=>(bind_some y.2).elim λj z=>(map_some z.2).elim λd a=>mO y.1 rv▸d8 z.1 rk▸have t:=D9 a.1;.tup t.1 t.2.1 t.2.2 (Lf.now (w:=.d d) R rfl (a.2▸q))
 |some c=>
  rw [g] at e
  cases c with
  |lst l=>exact (bind_some e).elim λj z=>ao (R.lst g rv) λa l' y=>y.2.1▸d8 z.1 rk▸have t:=D9 z.2;(y.2.2.2.get _ _ t.2.2).elim λb s=>.lst y.2.2.1.rd t.1 t.2.1 s.1 (Lf.now R (s.2.mono Lw.le) q)
  |aj t l=>exact (bind_some e).elim λd z=>ao (R.aj g rv) λa l' y=>y.2.1▸cJ z.1 rk▸have o:=cw z.2;have n:=ae o.1;((tY y.2.2.2).some o.2).elim λb s=>.aj y.2.2.1.rd (Q6.mp n.1) (bne_iff_ne.mp n.2) s.1 (Lf.now R (s.2.mono Lw.le) q)
  |obj n l=>exact aX e
  |cH=>exact aX e
theorem QD(e:w.dat≠none):h.get w=none:=by cases w with
 |d _=>rfl
 |_=>exact absurd rfl e
theorem uq{d:QI}(R:av B L h σ)(rv:au L w v)(e:oz h w=some d):mG B σ v d:=by
 unfold oz at e
 cases g:d6 (h.get w) with
 |none=>rw [g] at e;exact .inl (cJ e rv)
 |some l=>rw [g] at e;exact (map_some e).elim λxs y=>ao (R.lst (jg g) rv) λa l' z=>.inr ⟨a,xs,z.2.1,rh z.2.2.2 xs y.1▸z.2.2.1.rd,y.2.symm⟩
theorem B4(r:au L w v):tT v=nR w:=by cases w with
 |d x=>exact r▸rfl
 |bb=>exact r▸rfl
 |_=>exact Q7 r λp y=>y.2▸rfl
theorem B6(e:nR w=true):w.dat=some .none:=by cases w with
 |d x=>cases x with
  |none=>rfl
  |_=>exact ff e
 |_=>exact ff e
theorem mZ{α β:Type}{o:Option α}{f:α->Option β}{b:β}(e:o.rec none f=some b):∃a,o=some a/\f a=some b:=match o,e with
 |some a,e=>⟨a,rfl,e⟩
theorem Bf{t:Bool}(rv:au L w v)(rk:au L u k)(e:wX w u=some t):∃i j,v=.d (.int i)/\k=.d (.int j)/\decide (i<j)=t:=(mZ e).elim λi y=>(mZ y.2).elim λj z=>⟨i,j,d8 y.1 rv,d8 z.1 rk,QK z.2⟩
theorem By{t:Bool}(rv:au L w v)(rk:au L u k)(e:w9 w u=some t):∃i j,v=.d (.int i)/\k=.d (.int j)/\decide (i<=j)=t:=(mZ e).elim λi y=>(mZ y.2).elim λj z=>⟨i,j,d8 y.1 rv,d8 z.1 rk,QK z.2⟩
theorem tR{t t':Nat}(e:lT t t'=true):t'≠0/\(t=0\/t=t'):=have n:=ae e;⟨bne_iff_ne.mp n.1,(S9.mp n.2).imp Q6.mp Q6.mp⟩
theorem BO{t t':Nat}(h:t=0\/t=t'):b9 (t==0) t' t=t':=by
 cases h with
 |inl e=>subst e;rfl
 |inr e=>subst e;cases t==0<;>rfl
theorem Cf{t:Bool}(R:av B L h σ)(rv:au L w v)(rk:au L u k)(e:qE h w u=some t):cu B σ .In v k t/\cu B σ .NotIn v k (!t)\/∃a b,v=.d (.str a)/\k=.d (.str b)/\t=!(Tn b a 0 b.length 1).isEmpty:=by
 refine (bind_some e).elim λd y=>cJ y.1 rv▸?_;have e:=y.2
 cases g:h.get u with
 |none=>
  rw [g] at e;refine (bind_some e).elim λd' z=>cJ z.1 rk▸?_;have e:=z.2
  cases g':k9 d' with
  |none=>rw [g'] at e;exact (bind_some e).elim λa s=>(map_some s.2).elim λb s'=>.inr ⟨a,b,QQ V.d (rV s.1),QQ V.d (rV s'.1),s'.2.symm⟩
  |some ys=>rw [g'] at e;exact .inl (rK g'▸(QK e)▸⟨.cz,.Jv⟩)
 |some c=>
  rw [g] at e
  cases c with
  |lst l=>exact (map_some e).elim λys z=>ao (R.lst g rk) λa l' s=>s.2.1▸z.2▸have o:=rh s.2.2.2 ys z.1▸s.2.2.1.rd;.inl ⟨.LH o,.Jw o⟩
  |aj t' l=>exact have o:=cw e;ao (R.aj g rk) λa l' s=>s.2.1▸have q:=tR o.1;.inl (QK o.2▸(tY s.2.2.2).is▸⟨.inD s.2.2.1.rd rfl q.1 q.2,.Jx s.2.2.1.rd rfl q.1 q.2⟩)
  |obj _ _=>exact aX e
  |cH=>exact aX e
theorem C9{t:Bool}(R:av B L h σ)(rv:au L w v)(rk:au L u k)(e:mj h w u=some t):cu B σ .Eq v k t/\(w.h6=false->cu B σ .NotEq v k (!t)):=by
 unfold mj at e
 cases g:w.h6 with
 |true=>
  rw [g] at e
  have hv:v=.bb:=by cases w with
   |bb=>exact rv
   |_=>exact ff g
  exact (map_some e).elim λys z=>mO z.1 rk▸hv▸z.2▸⟨.Nc,λn=>nomatch n⟩
 |false=>rw [g] at e;exact (mZ e).elim λd y=>(mZ y.2).elim λd' z=>QK z.2▸⟨.eq (uq R rv y.1) (uq R rk z.1),λ_=>.ne (uq R rv y.1) (uq R rk z.1)⟩
theorem DH{op:Wz}{t:Bool}(R:av B L h σ)(rv:au L w v)(rk:au L u k)(e:kB h op w u=some t):cu B σ op v k t:=by
 cases op with
 |Eq=>exact (C9 R rv rk e).1
 |NotEq=>
  have e:w.h6.rec ((mj h w u).map λb=>!b) none=some t:=e
  cases g:w.h6 with
  |true=>rw [g] at e;exact aX e
  |false=>rw [g] at e;exact (map_some e).elim λb y=>y.2▸(C9 R rv rk y.1).2 g
 |Lt=>exact ao (Bf rv rk e) λi j y=>y.1▸y.2.1▸y.2.2▸.lt
 |LtE=>exact ao (By rv rk e) λi j y=>y.1▸y.2.1▸y.2.2▸.le
 |Gt=>exact ao (Bf rk rv e) λi j y=>y.1▸y.2.1▸y.2.2▸.gt
 |GtE=>exact ao (By rk rv e) λi j y=>y.1▸y.2.1▸y.2.2▸.ge
 |Is=>exact have o:=cw e;cJ (B6 o.1) rk▸QK o.2▸B4 rv▸.is
 |IsNot=>exact have o:=cw e;cJ (B6 o.1) rk▸QK o.2▸B4 rv▸.Lu
 |In=>exact (Cf R rv rk e).elim acs λy=>ao y λa b y=>y.1▸y.2.1▸y.2.2▸.LG
 |NotIn=>exact have o:=cw e;(map_some o.2).elim λb y=>(Cf R rv rk y.1).elim (λz=>y.2▸z.2) λz=>ao z λa b z=>by rw [NB (z.2.1▸rk)] at o;exact ff o.1
end
section
variable{B:Bs}{L:Lm}{h:Hs}{σ:Map}{w u x:W}{v k:V}{Q:W->Hs->Prop}{ws:List W}{vs:List V}
theorem Ho(r:ai (au L) ws vs)(n:w.nt.rec true (fW ws)=true):ai (au (Lw L w)) ws vs:=by
 cases g:w.nt with
 |true=>rw [g] at n;refine aa (qk g) ?_;exact y1 r n
 |false=>refine aa (wQ g) ?_;exact r
theorem IU{α:Type}{l:List (α×W)}{l':List (α×V)}(r:ai (PR L) l l')(n:w.nt.rec true (fW (l.map (·.2)))=true):ai (PR (Lw L w)) l l':=by
 cases g:w.nt with
 |false=>refine aa (wQ g) ?_;exact r
 |true=>
  rw [g] at n;refine aa (qk g) ?_;exact ai.rec (motive:=λl l' _=>fW (l.map Z5)=true->ai (PR (Ln L)) l l') (λ_=>.nil) (λ{p q as _} r _ ih n=>have n:(p.2.nt&&fW (as.map Z5))=true:=n;.cons ⟨r.1,r.2.nt (ae n).1⟩ (ih (ae n).2)) r n
theorem lN(R:av B L h σ)(r:ai (au L) ws vs)(g:gz h (.lst ws) Q):∀a,σ a=none->Lf B L Q (.r a) (σ.put a (.lst vs)):=λa f=>g.elim λw g=>have q:=g.2.get;
 have fr:=Hs.t8 g.1;have le:=R.more g.1;have R':=av.new (c:=.lst ws) (σ':=σ.put a (.lst vs)) R g.1 f f (λb n=>Map.aO λe=>n (e▸f)) ⟨rfl,vs,.of fr.2 Map.a7,(Ho r q.1).imp λ_ _ z=>z.mono le.lw⟩;have e:gZ L w (a,a) w=some (a,a):=QR rfl;have gw:(h.new w (.lst ws)).get w=some (.lst ws):=(Hs.lL g.1).trans (QR rfl)
 ⟨_,w,_,le,R',by cases w with
  |d _=>exact aX gw
  |bb=>exact aX gw
  |_=>exact ⟨_,e,rfl⟩,q.2⟩
theorem newD{t:Nat}{l:List (QI×W)}{l':List (QI×V)}(R:av B L h σ)(r:ai (PR L) l l')(g:gz h (.aj t l) Q):∀a,σ a=none->Lf B L Q (.r a) (σ.put a (.aj t l')):=λa f=>g.elim λw g=>have q:=g.2.get;
 have fr:=Hs.t8 g.1;have le:=R.more g.1;have R':=av.new (c:=.aj t l) (σ':=σ.put a (.aj t l')) R g.1 f f (λb n=>Map.aO λe=>n (e▸f)) ⟨rfl,l',.of fr.2 Map.a7,(IU r q.1).imp λ_ _ z=>z.mono le.lw⟩;have e:gZ L w (a,a) w=some (a,a):=QR rfl;have gw:(h.new w (.aj t l)).get w=some (.aj t l):=(Hs.lL g.1).trans (QR rfl)
 ⟨_,w,_,le,R',by cases w with
  |d _=>exact aX gw
  |bb=>exact aX gw
  |_=>exact ⟨_,e,rfl⟩,q.2⟩
theorem dF{n m:Nat}(e:Si n m=true):n<m:=Tg.mp e
theorem oE{n m:Nat}(e:Uv n m=true):n<=m:=Xs e
theorem Iz:(2:Int)^62=4611686018427387904:=rfl
theorem mW{i:Int}:bE i=true->small i:=by
 unfold small;refine aa Iz ?_
 cases i with
 |ofNat n=>exact λe=>have:=dF e;show -4611686018427387904<(n:Int)/\(n:Int)<4611686018427387904 from⟨by omega,by omega⟩
 |negSucc n=>exact λe=>have:=dF e;⟨by omega,by omega⟩
theorem Lz{y z:QI}{f:Int->Int->Option Int}{d:QI}(e:km y z f=some d):∃i j m,y=.int i/\z=.int j/\f i j=some m/\d=.int m:=(bind_some e).elim λi a=>(bind_some a.2).elim λj b=>(map_some b.2).elim λm s=>⟨i,j,m,tU a.1,tU b.1,s.1,s.2.symm⟩
theorem O8{op:SX}{y z d:QI}{G:V->Map->Prop}(e:yt op y z=some d)(q:G (.d d) σ):cL B G σ op (.d y) (.d z):=by
 have i2:∀{f:Int->Int->Option Int}{op:SX},km y z f=some d->(∀i j m,f i j=some m->G (.d (.int m)) σ->cL B G σ op (.d (.int i)) (.d (.int j)))->cL B G σ op (.d y) (.d z):=λe k=>az (Lz e) λi j m s=>s.1▸s.2.1▸k i j m s.2.2.1 (s.2.2.2▸q)
 cases op with
 |Add=>cases y with
  |int i=>exact (map_some e).elim λj s=>tU s.1▸.add (s.2▸q)
  |str a=>exact (bind_some e).elim λb s=>rV s.1▸have o:=cw s.2;have n:=ae o.1;.str (dF n.1) n.2 (QK o.2▸q)
  |tuple xs=>exact (bind_some e).elim λb s=>rK s.1▸have o:=cw s.2;.tup o.1 (QK o.2▸q)
  |_=>exact aX e
 |Sub=>exact i2 e λi j m s q=>.sub (QK s▸q)
 |Mult=>exact i2 e λi j m s q=>have o:=cw s;have n:=ae o.1;.mul (mW n.1) (mW n.2) (QK o.2▸q)
 |Mod=>exact i2 e λi j m s q=>have o:=cw s;.mod (Q0 o.1) (QK o.2▸q)
 |LShift=>exact i2 e λi j m s q=>have o:=cw s;have n:=ae o.1;have p:=ae n.1;.shl (Q0 p.1) (Q0 p.2) (mW n.2) (QK o.2▸q)
 |BitOr=>exact i2 e λi j m s q=>.or (QK s▸q)
 |FloorDiv=>exact i2 e λi j m s q=>have o:=cw s;have n:=ae o.1;.div (Q0 n.1) (Q0 n.2) (QK o.2▸q)
 |_=>exact aX e
theorem PN{α β:Type}{S:α->β->Prop}{as as':List α}{bs bs':List β}(x:ai S as bs)(y:ai S as' bs'):ai S (as++as') (bs++bs'):=x.append y
theorem ql(r:ai (au (Lw L w)) ws vs):ai (au L) ws vs:=r.imp λ_ _ z=>z.mono Lw.le
theorem O4{op:SX}(R:av B L h σ)(rv:au L w v)(ru:au L u k)(g:kU h op w u Q):cL B (Lf B L Q) σ op v k:=by
 unfold kU at g
 cases e:d6 (h.get w) with
 |none=>rw [e] at g;exact g.get.elim λd y=>(bind_some y.1).elim λa s=>(bind_some s.2).elim λb s'=>cJ s.1 rv▸cJ s'.1 ru▸O8 s'.2 (Lf.now (w:=.d d) R rfl y.2)
 |some l=>
  rw [e] at g;have a:=g.get
  have ho:op=.Add:=by cases op with
   |Add=>rfl
   |_=>exact ff a.1
  exact a.2.get.elim λm y=>have z:=y.2.get;ao (R.lst (jg e) rv) λp l' s=>ao (R.lst (jg y.1) ru) λp' m' s'=>s.2.1▸s'.2.1▸ho▸.lst s.2.2.1.rd s'.2.2.1.rd (dH s.2.2.2▸dH s'.2.2.2▸dF z.1) (lN R (PN (ql s.2.2.2) (ql s'.2.2.2)) z.2)
theorem zG{lo:Bool}(R:av B L h σ)(rv:au L w v)(ru:au L u k)(g:Eh h lo w u Q):dJ B (Lf B L Q) σ lo v k:=by
 refine g.get.elim λj y=>(bind_some y.1).elim λi s=>d8 s.1 ru▸wD s.2▸?_;have g:=y.2;unfold zI at g;have nn:=R7 j
 cases e:d6 (h.get w) with
 |none=>
  rw [e] at g;refine g.get.elim λxs z=>mO z.1 rv▸have o:=z.2.get;have n:=ae o.1;?_
  cases lo with
  |true=>exact .zf (RZ.mpr (oE n.2)) (oE n.1) (Lf.now (w:=.d _) R rfl o.2)
  |false=>exact .zg nn (oE n.1) (Lf.now (w:=.d _) R rfl o.2)
 |some l=>
  rw [e] at g;refine have o:=g.get;ao (R.lst (jg e) rv) λp l' s=>s.2.1▸?_
  cases lo with
  |true=>exact .Bj s.2.2.1.rd nn (dH s.2.2.2▸dF o.1) (lN R ((ql s.2.2.2).drop j) o.2)
  |false=>exact .Bk s.2.2.1.rd nn (dH s.2.2.2▸dF o.1) (lN R ((ql s.2.2.2).take j) o.2)
theorem KA{n:Nat}(R:av B L h σ)(rv:au L w v)(e:lO h w=some n):Et B σ v n:=by
 unfold lO at e
 cases g:d6 (h.get w) with
 |none=>
  rw [g] at e;refine (bind_some e).elim λd s=>?_;have e:=s.2
  cases g':k9 d with
  |some xs=>rw [g'] at e;exact .inl ⟨xs,(rK g')▸cJ s.1 rv,(QK e).symm⟩
  |none=>rw [g'] at e;exact (bind_some e).elim λa z=>have o:=cw z.2;.inr (.inl ⟨a,(rV z.1)▸cJ s.1 rv,dF o.1,(QK o.2).symm⟩)
 |some l=>rw [g] at e;exact have o:=cw e;ao (R.lst (jg g) rv) λp l' s=>.inr (.inr ⟨p,l',s.2.1,s.2.2.1.rd,dH s.2.2.2▸dF o.1,dH s.2.2.2▸(QK o.2).symm⟩)
theorem rO{b:Bool}(rv:au L w v)(e:pe w=some b):uJ v b:=(bind_some e).elim λd y=>cJ y.1 rv▸by
 have e:=y.2
 cases d with
 |none=>exact (QK e).symm
 |bool x=>exact (QK e).symm
 |int x=>exact (QK e).symm
 |tuple x=>exact (QK e).symm
 |_=>exact aX e
theorem Pr{y:String}(R:av B L h σ)(rv:au L w v)(e:uA h w y=some x)(q:Q x h):ry y (Lf B L Q) v σ:=(bind_some e).elim λp z=>ao (R.obj (wb z.1) rv) λa l' s=>(Kq s.2.2.2.2.2 z.2).elim λb t=>⟨a.1,_,a.2,l',b,s.2.1,s.2.2.2.1,s.2.2.2.2.1,t.1,Lf.now R (t.2.mono Lw.le) q⟩
end
structure Vx where
 ρ:aK
 κ:aK
 X:QI->QI->Map->Prop
noncomputable def cq(c:Wc)(v:Vx):Cx:=⟨c.B,c.n,c.h,v.ρ,c.x,v.κ,v.X⟩
structure Ok(c:Wc) L(v:Vx):Prop where
 ρ:∀x w,look c.ρ x=some w->∃y,v.ρ.lookup x=some y/\au L w y
 κ:∀x,cS (look c.κ x)=true->v.κ.lookup x=none
 X:∀p q σ,kO c.B L c.X p q σ->v.X p q σ
 u4:cS c.κ.head?=true->v.κ=[]
theorem Ok.more{c:Wc}{L L':Lm}{v:Vx}(k:Ok c L v)(x:Le L L'):Ok c L' v:=⟨λy w e=>(k.ρ y w e).imp λu z=>⟨z.1,z.2.mono x⟩,k.κ,λp q σ z=>k.X p q σ (z.more x),k.u4⟩
def P8(B:Bs)(L:Lm)(Q:List (QI×W)->Hs->Prop)(l:List (QI×V))(σ:Map):Prop:=∃L' ws h,Le L L'/\av B L' h σ/\ai (PR L') ws l/\Q ws h
def MV(e:E):Prop:=∀(c:Wc) h Q L v σ,aZ e c h Q->Ok c L v->av c.B L h σ->Ev (cq c v) e σ (Lf c.B L Q)
def MT(e:E):Prop:=∀(c:Wc) h Q L v σ,jO e c h Q->Ok c L v->av c.B L h σ->Ts (cq c v) e σ (iQ c.B L Q)
def ML(es:Es):Prop:=∀(c:Wc) h Q L v σ,eR es c h Q->Ok c L v->av c.B L h σ->cM (cq c v) es σ (uO c.B L Q)
def MP(es:Es):Prop:=∀(c:Wc) h Q L v σ,u9 es c h Q->Ok c L v->av c.B L h σ->iS (cq c v) es σ (P8 c.B L Q)
def MB(es:Es):Prop:=∀(op:V2) c h Q L v σ,rE es (stop op) c h Q->Ok c L v->av c.B L h σ->gX (cq c v) op es σ (iQ c.B L Q)
def MO(es:Es):Prop:=∀(op:V2) c h Q L v σ,rD es (stop op) c h Q->Ok c L v->av c.B L h σ->g5 (cq c v) op es σ (Lf c.B L Q)
section
variable{c:Wc}{h:Hs}{L:Lm}{v:Vx}{σ:Map}{a b:E}{es:Es}{Q:W->Hs->Prop}
theorem MV.go(m:MV a){F:W->Hs->Prop}{G:V->Map->Prop}(g:aZ a c h F)(ok:Ok c L v)(R:av c.B L h σ)(k:∀L' w y h σ,Le L L'->Ok c L' v->av c.B L' h σ->au L' w y->F w h->G y σ):Ev (cq c v) a σ G:=(m c h F L v σ g ok R).mono λy σ1 z=>az z λL1 w h1 z=>k L1 w y h1 σ1 z.1 (ok.more z.1) z.2.1 z.2.2.1 z.2.2.2
theorem MV.two(m:MV a)(m':MV b){F:W->W->Hs->Prop}{G:V->V->Map->Prop}(g:aZ a c h λw h=>aZ b c h λu h=>F w u h)(ok:Ok c L v)(R:av c.B L h σ)(k:∀L' w u y z h σ,Le L L'->av c.B L' h σ->au L' w y->au L' u z->F w u h->G y z σ):Ev (cq c v) a σ (K2 (cq c v) b G):=m.go g ok R λL1 w y h1 σ1 le ok1 R1 r1 g=>m'.go g ok1 R1 λL2 u z h2 σ2 le2 _ R2 r2 g=>k L2 w u y z h2 σ2 (le.trans le2) R2 (r1.mono le2) r2 g
theorem cL.more{B:Bs}{op:SX}{y z:V}{P P':V->Map->Prop}(k:∀v σ,P v σ->P' v σ)(x:cL B P σ op y z):cL B P' σ op y z:=@cL.casesOn B P σ (λop y z _=>cL B P' σ op y z) op y z x (λq=>.add (k _ _ q)) (λq=>.sub (k _ _ q)) (λa b q=>.mul a b (k _ _ q)) (λa b q=>.div a b (k _ _ q)) (λa q=>.mod a (k _ _ q)) (λa b d q=>.shl a b d (k _ _ q)) (λq=>.or (k _ _ q)) (λa b q=>.str a b (k _ _ q)) (λa q=>.tup a (k _ _ q)) λa b d q=>.lst a b d λr e=>k _ _ (q r e)
theorem KGet.more{B:Bs}{y z:V}{P P':V->Map->Prop}(k:∀v σ,P v σ->P' v σ)(x:KGet B P σ y z):KGet B P' σ y z:=@KGet.casesOn B P σ (λy z _=>KGet B P' σ y z) y z x (λa b d q=>.tup a b d (k _ _ q)) (λa b d e q=>.lst a b d e (k _ _ q)) λa b d e q=>.aj a b d e (k _ _ q)
theorem dJ.more{B:Bs}{lo:Bool}{y z:V}{P P':V->Map->Prop}(k:∀v σ,P v σ->P' v σ)(x:dJ B P σ lo y z):dJ B P' σ lo y z:=@dJ.casesOn B P σ (λlo y z _=>dJ B P' σ lo y z) lo y z x (λa b q=>.zf a b (k _ _ q)) (λa b q=>.zg a b (k _ _ q)) (λa b d q=>.Bj a b d λr e=>k _ _ (q r e)) λa b d q=>.Bk a b d λr e=>k _ _ (q r e)
theorem MV.lit{d:QI}:MV (.lit d):=λc h Q L v σ g ok R=>.lit (.now (w:=.d d) R rfl g)
theorem MV.bb:MV .lK:=λc h Q L v σ g ok R=>.bb (.now (w:=.bb) R rfl g)
theorem MV.lv{x:String}:MV (.lv x):=λc h Q L v σ g ok R=>g.get.elim λw g=>(ok.ρ x w g.1).elim λy z=>.lv z.1 (.now R z.2 g.2)
theorem MV.gv{x:String}:MV (.gv x):=λc h Q L v σ g ok R=>g.get.elim λw g=>(R.gv x w g.1).2.elim λy z=>.gv z.1 (.now R z.2 g.2)
theorem MV.gk{x:String}{d:QI}:MV (.gk x d):=λc h Q L v σ g ok R=>.gk (.now (w:=.d d) R rfl g)
theorem MV.neg(m:MV a):MV (.neg a):=λc h Q L v σ g ok R=>.neg (m.go g ok R λL1 w y h1 σ1 le _ R1 r g=>g.get.elim λi g=>⟨i,d8 g.1 r,(Lf.now (w:=.d _) R1 rfl g.2).more le⟩)
theorem MV.bin{op:SX}(m:MV a)(m':MV b):MV (.bin op a b):=λc h Q L v σ g ok R=>.bin (m.two m' g ok R λL' w u y z h σ le R r1 r2 g=>(O4 R r1 r2 g).more λ_ _ q=>q.more le)
theorem MV.cmp{op:Wz}(m:MV a)(m':MV b):MV (.cmp op a b):=λc h Q L v σ g ok R=>.cmp (m.two m' g ok R λL' w u y z h σ le R r1 r2 g=>g.get.elim λt g=>⟨t,DH R r1 r2 g.1,(Lf.now (w:=.d (.bool t)) R rfl g.2).more le⟩)
theorem MT.cmp{op:Wz}(m:MV a)(m':MV b):MT (.cmp op a b):=λc h Q L v σ g ok R=>.cmp (m.two m' g ok R λL' w u y z h σ le R r1 r2 g=>g.get.elim λt g=>⟨t,DH R r1 r2 g.1,L',h,le,R,g.2⟩)
theorem MV.idx(m:MV a)(m':MV b):MV (.idx a b):=λc h Q L v σ g ok R=>.idx (m.two m' g ok R λL' w u y z h σ le R r1 r2 g=>g.get.elim λt g=>(L5 R r1 r2 g.1 g.2).more λ_ _ q=>q.more le)
theorem MV.lr(m:MV a)(m':MV b):MV (.lr a b):=λc h Q L v σ g ok R=>.lr (m.two m' g ok R λL' w u y z h σ le R r1 r2 g=>(zG R r1 r2 g).more λ_ _ q=>q.more le)
theorem MV.ly(m:MV a)(m':MV b):MV (.ly a b):=λc h Q L v σ g ok R=>.ly (m.two m' g ok R λL' w u y z h σ le R r1 r2 g=>(zG R r1 r2 g).more λ_ _ q=>q.more le)
theorem MV.aF{x:String}(m:MV a):MV (.aF a x):=λc h Q L v σ g ok R=>.aF (m.go g ok R λL1 w y h1 σ1 le _ R1 r g=>g.get.elim λi g=>have z:=Pr R1 r g.1 g.2;cm z λa n d l u z=>⟨a,n,d,l,u,z.1,z.2.1,z.2.2.1,z.2.2.2.1,z.2.2.2.2.more le⟩)
theorem MV.iG{x f:String}:MV (.iG x f):=λc h Q L v σ g ok R=>g.get.elim λd g=>(bind_some g.1).elim λy z=>have o:=cw z.2;by
 have hx:c.x=some (x,y.2.1,y.2.2):=z.1.trans (QQ some (by exact a9 (Q6.mp o.1) rfl));have e:=o.2
 cases q:f=="code" with
 |true=>rw [q] at e;exact .iG hx (.inl ⟨Q6.mp q,rfl⟩) (.now (w:=.d _) R rfl ((QK e)▸g.2))
 |false=>rw [q] at e;have e:=cw e;exact .iG hx (.inr ⟨Q6.mp e.1,rfl⟩) (.now (w:=.d _) R rfl ((QK e.2)▸g.2))
theorem MT.nt(m:MT a):MT (.nt a):=λc h Q L v σ g ok R=>.nt (m c h _ L v σ g ok R)
theorem MT.lv{x:String}:MT (.lv x):=λc h Q L v σ g ok R=>g.get.elim λw g=>(ok.ρ x w g.1).elim λy z=>g.2.get.elim λb g=>.lv (.lv z.1 ⟨b,rO z.2 g.1,L,h,.refl,R,g.2⟩)
theorem MT.idx(m:MV a)(m':MV b):MT (.idx a b):=λc h Q L v σ g ok R=>.idx ((m.idx m' c h (λu h=>Wo (pe u) λb=>Q b h) L v σ g ok R).mono λy σ1 z=>az z λL1 w h1 z=>z.2.2.2.get.elim λt g=>⟨t,rO z.2.2.1 g.1,L1,h1,z.1,z.2.1,g.2⟩)
theorem iQ.cond{T F:Map->Prop}{P P':Hs->Prop}{d:Bool}(g:iQ c.B L (λd h=>Br d (P h) (P' h)) d σ)(k:∀L' h,Le L L'->av c.B L' h σ->P h->T σ)(k':∀L' h,Le L L'->av c.B L' h σ->P' h->F σ):oV T F d σ:=ao g λL1 h1 z=>⟨λe=>k L1 h1 z.1 z.2.1 (z.2.2.get.1 e),λe=>k' L1 h1 z.1 z.2.1 (z.2.2.get.2 e)⟩
theorem MV.fZ{t:E}(mt:MT t)(m:MV a)(m':MV b):MV (.fZ t a b):=λc h Q L v σ g ok R=>.fZ ((mt c h _ L v σ g ok R).mono λd σ1 z=>iQ.cond z (λL1 h1 le R1 g=>(m c h1 Q L1 v σ1 g (ok.more le) R1).mono λ_ _ q=>q.more le) λL1 h1 le R1 g=>(m' c h1 Q L1 v σ1 g (ok.more le) R1).mono λ_ _ q=>q.more le)
theorem ML.nil:ML .nil:=λc h Q L v σ g ok R=>.nil ⟨L,[],h,.refl,R,.nil,g⟩
theorem ML.cons(m:MV a)(m':ML es):ML (.cons a es):=λc h Q L v σ g ok R=>.cons (m.go g ok R λL1 w y h1 σ1 le ok1 R1 r g=>(m' c h1 _ L1 v σ1 g ok1 R1).mono λys σ2 z=>az z λL2 ws h2 z=>⟨L2,w::ws,h2,le.trans z.1,z.2.1,.cons (r.mono z.1) z.2.2.1,z.2.2.2⟩)
theorem MP.nil:MP .nil:=λc h Q L v σ g ok R=>.nil ⟨L,[],h,.refl,R,.nil,g⟩
theorem iS.mono{c:Cx}{P P':List (QI×V)->Map->Prop}(h:iS c es σ P)(k:∀l σ,P l σ->P' l σ):iS c es σ P':=λA env sc φ s ks vs pos t m S=>aG (h A env sc φ s ks vs pos t m S) (λ_ _ x=>ao x λvs σ1 y=>⟨vs,σ1,k _ _ y.1,y.2⟩)
theorem MP.cons(m:MV a)(m':MV b)(m'':MP es):MP (.cons a (.cons b es)):=λc h Q L v σ g ok R=>.cons (m.go g ok R λL1 w y h1 σ1 le ok1 R1 r g=>g.get.elim λk g=>⟨k,cJ g.1 r,m'.go g.2 ok1 R1 λL2 u z h2 σ2 le2 ok2 R2 r2 g=>(m'' c h2 _ L2 v σ2 g ok2 R2).mono λl σ3 x=>az x λL3 l' h3 x=>⟨L3,(k,u)::l',h3,(le.trans le2).trans x.1,x.2.1,.cons ⟨rfl,r2.mono x.1⟩ x.2.2.1,x.2.2.2⟩⟩)
theorem MB.nil:MB .nil:=λop c h Q L v σ g ok R=>.nil ⟨L,h,.refl,R,g⟩
theorem gX.mono{c:Cx}{op:V2}{P P':Bool->Map->Prop}(h:gX c op es σ P)(k:∀b σ,P b σ->P' b σ):gX c op es σ P':=λA env sc φ s l t m S=>aG (h A env sc φ s l t m S) (λ_ _ x=>SY (λσ1 y=>⟨k _ _ y.1,y.2⟩) x)
theorem g5.mono{c:Cx}{op:V2}{P P':V->Map->Prop}(h:g5 c op es σ P)(k:∀b σ,P b σ->P' b σ):g5 c op es σ P':=λA env sc φ s l p t m S=>aG (h A env sc φ s l p t m S) (λ_ _ x=>ao x λv σ1 y=>⟨v,σ1,k _ _ y.1,y.2⟩)
theorem MB.cons(m:MT a)(m':MB es):MB (.cons a es):=λop c h Q L v σ g ok R=>.cons ((m c h _ L v σ g ok R).mono λb σ1 z=>ao z λL1 h1 z=>⟨λe=>⟨L1,h1,z.1,z.2.1,e.symm▸z.2.2.get.1 e⟩,λe=>(m' op c h1 Q L1 v σ1 (z.2.2.get.2 e) (ok.more z.1) z.2.1).mono λ_ _ q=>q.more z.1⟩)
theorem MO.one(m:MV a):MO (.cons a .nil):=λop c h Q L v σ g ok R=>.one (m c h Q L v σ g ok R)
theorem MO.cons(m:MV a)(m':MO (.cons b es)):MO (.cons a (.cons b es)):=λop c h Q L v σ g ok R=>.cons (m.go g ok R λL1 w y h1 σ1 le ok1 R1 r g=>g.get.elim λt g=>have q:=g.2.get;⟨t,rO r g.1,λe=>⟨L1,w,h1,le,R1,r,q.1 e⟩,λe=>(m' op c h1 Q L1 v σ1 (q.2 e) ok1 R1).mono λ_ _ q=>q.more le⟩)
theorem MV.bor(m:MO es):MV (.bor es):=λc h Q L v σ g ok R=>.bor (m .Or c h Q L v σ g ok R)
theorem MV.band(m:MO es):MV (.band es):=λc h Q L v σ g ok R=>.band (m .And c h Q L v σ g ok R)
theorem MT.bor(m:MB es):MT (.bor es):=λc h Q L v σ g ok R=>.bor (m .Or c h Q L v σ g ok R)
theorem MT.band(m:MB es):MT (.band es):=λc h Q L v σ g ok R=>.band (m .And c h Q L v σ g ok R)
theorem MV.tup(m:ML es):MV (.tup es):=λc h Q L v σ g ok R=>.tup ((m c h _ L v σ g ok R).mono λys σ1 z=>az z λL1 ws h1 z=>z.2.2.2.get.elim λds g=>have o:=g.2.get;⟨ds,rh z.2.2.1 ds g.1,o.1,L1,.d _,h1,z.1,z.2.1,rfl,o.2⟩)
theorem MV.lst(m:ML es):MV (.lst es):=λc h Q L v σ g ok R=>.lst ((m c h _ L v σ g ok R).mono λys σ1 z=>az z λL1 ws h1 z=>have o:=z.2.2.2.get;⟨dH z.2.2.1▸oE o.1,λa f=>(lN z.2.1 z.2.2.1 o.2 a f).more z.1⟩)
theorem MV.rep{n:Nat}(m:MV a):MV (.rep a n):=λc h Q L v σ g ok R=>.rep (m.go g ok R λL1 w y h1 σ1 le ok1 R1 r g=>λa f=>(lN R1 (ai.rep r n) g a f).more le)
end
section
variable{c:Wc}{h:Hs}{L L':Lm}{v:Vx}{σ:Map}{a b:E}{es:Es}{Q:W->Hs->Prop}{ws:List W}{vs:List V}{w:W}{y:V}
theorem Mf{B:Bs}{l:List (QI×W)}{l':List (QI×V)}(r:ai (PR L) l l'):∀{acc:List (QI×W)}{acc':List (QI×V)},ai (PR L) acc acc'->ai (PR L) (l.foldl (λr p=>bX r p.1 p.2) acc) (table acc' l'):=by
 induction r with
 |nil=>exact λx=>x
 |cons r _ ih=>exact λ{acc acc'} x=>ih (by refine (?_:ai (PR L) (bX acc _ _) (putD acc' _ _));refine aa r.1 ?_;exact Ao x r.2)
theorem Li{T:Nat}{l:List (QI×W)}{l':List (QI×V)}(r:ai (PR L) l l'):keysOk T l=true->∀p∈l',kd p.1=T:=r.rec (λ_ p m=>nomatch m) λ{p q as bs} r _ ih n z m=>have n:(kd p.1==T&&keysOk T as)=true:=n;(QZ.mp m).elim (λe=>e▸r.1▸Q6.mp (ae n).1) (ih (ae n).2 z)
theorem MV.yd:MV (.aj .nil):=λc h Q L v σ g ok R=>Q7 g λt g=>.yd λa f=>newD R .nil g a f
theorem MV.NA:MV (.aj (.cons a .nil)):=λc h Q L v σ g ok R=>g.elim
theorem MV.aj(m:MV a)(m':MV b)(m'':MP es):MV (.aj (.cons a (.cons b es))):=λc h Q L v σ g ok R=>.aj (.cons (m.go g ok R λL1 w y h1 σ1 le ok1 R1 r g=>g.get.elim λk g=>⟨k,cJ g.1 r,m'.go g.2 ok1 R1 λL2 u z h2 σ2 le2 ok2 R2 r2 g=>(m'' c h2 _ L2 v σ2 g ok2 R2).mono λl σ3 x=>az x λL3 l' h3 x=>
 have al:ai (PR L3) ((k,u)::l') ((k,z)::l):=.cons ⟨rfl,r2.mono x.1⟩ x.2.2.1;have o:=x.2.2.2.get;have n:=ae o.1;have n':=ae n.1
 ⟨kd k,bne_iff_ne.mp n'.1,Te _ _,dH al▸oE n'.2,Li al n.2,λa f=>(newD x.2.1 (Mf (B:=c.B) al .nil) o.2 a f).more ((le.trans le2).trans x.1)⟩⟩))
theorem v7{α:Type}{l:List α}{x:α}(e:one l=some x):l=[x]:=by cases l with
 |nil=>exact aX e
 |cons y t=>cases t with
  |nil=>exact QK e▸rfl
  |cons _ _=>exact aX e
theorem nc(r:ai (au L) ws vs)(e:one ws=some w):∃y,vs=[y]/\au L w y:=all1 (v7 e▸r)
theorem za{p:W×W}(r:ai (au L) ws vs)(e:vj ws=some p):∃y z,vs=[y,z]/\au L p.1 y/\au L p.2 z:=by cases ws with
 |nil=>exact aX e
 |cons x t=>exact (map_some (show(one t).map (λy=>(x,y))=some p from e)).elim λy z=>all2 (z.2▸v7 z.1▸r)
theorem sW(e:(!c.h)=true):c.h=false:=SZ _▸e
theorem N3{f:String}(g:yT c f ws h Q)(ok:Ok c L v)(R:av c.B L h σ)(r:ai (au L) ws vs):Calls c.B c.n f vs σ (Lf c.B L Q) v.X:=by
 unfold yT at g
 cases q:f=="len" with
 |true=>
  rw [q] at g;exact (Wo.get g).elim λk g=>(bind_some g.1).elim λw z=>(nc r z.1).elim λy s=>Q6.mp q▸s.1▸.len (KA R s.2 z.2) (.now (w:=.d _) R rfl g.2)
 |false=>
  rw [q] at g
  cases q:f=="tuple" with
  |true=>
   rw [q] at g;exact (Wo.get g).elim λd g=>(bind_some g.1).elim λw z=>(nc r z.1).elim λy s=>(bind_some z.2).elim λl z=>(bind_some z.2).elim λds z'=>have o:=cw z'.2;ao (R.lst (jg z.1) s.2) λa l' t=>Q6.mp q▸s.1▸t.2.1▸.tuple (rh t.2.2.2 ds z'.1▸t.2.2.1.rd) o.1 (.now (w:=.d _) R rfl ((QK o.2)▸g.2))
  |false=>
   rw [q] at g
   cases q:f=="chr" with
   |true=>
    rw [q] at g;exact (Wo.get g).elim λi g=>(bind_some g.1).elim λw z=>(nc r z.1).elim λy s=>have o:=g.2.get;Q6.mp q▸s.1▸((Q6.mp o.1)▸d8 z.2 s.2:y=.d (.int 96))▸.chr (.now (w:=.d _) R rfl o.2)
   |false=>
    rw [q] at g
    cases q:f=="str" with
    |true=>
     rw [q] at g;exact (Wo.get g).elim λn g=>(bind_some g.1).elim λw z=>(nc r z.1).elim λy s=>(bind_some z.2).elim λi z'=>have o:=g.2.get;have n':=ae o.1;Q6.mp q▸s.1▸d8 z'.1 s.2▸wD z'.2▸.str ⟨R7 n,R5.mpr (dF n'.1)⟩ n'.2 (.now (w:=.d _) R rfl o.2)
    |false=>
     rw [q] at g;exact have o:=Gd.get g;(o.2.at o.1 R r).mono (λ_ _ q=>q) ok.X
theorem MV.call{f:String}(m:ML es):MV (.call f es):=λc h Q L v σ g ok R=>have g:=g.get;.call (sW g.1) ((m c h _ L v σ g.2 ok R).mono λys σ1 z=>az z λL1 ws h1 z=>(N3 z.2.2.2 (ok.more z.1) z.2.1 z.2.2.1).mono (λ_ _ q=>q.more z.1) λ_ _ _ q=>q)
theorem MT.call{f:String}(m:ML es):MT (.call f es):=λc h Q L v σ g ok R=>.call ((MV.call m c h (λu h=>Wo (pe u) λb=>Q b h) L v σ g ok R).mono λy σ1 z=>az z λL1 w h1 z=>z.2.2.2.get.elim λt g=>⟨t,rO z.2.2.1 g.1,L1,h1,z.1,z.2.1,g.2⟩)
end
section
variable{c:Wc}{h:Hs}{L L':Lm}{v:Vx}{σ:Map}{a b:E}{es:Es}{Q:W->Hs->Prop}{ws:List W}{vs:List V}{w x:W}{y:V}
theorem vo(e:(!w.top)=true):w.top=false:=SZ _▸e
theorem pQ(o:j1 w x=true)(r:au L x y):au (Lw L w) x y:=by
 unfold j1 at o
 cases g:w.nt with
 |false=>refine aa (wQ g) ?_;exact r
 |true=>rw [g] at o;refine aa (qk g) ?_;exact r.nt o
theorem Ak{B:Bs}{l l2:List W}{l':List V}{p:Q5}(R:av B L h σ)(n:w.top=false)(e:h.get w=some (.lst l))(el:L w=some (p,p))(r:ai (au (Lw L w)) l2 l'):av B L (h.set w (.lst l2)) (σ.put p (.lst l')):=R.put e el n ⟨rfl,l',.of n Map.a7,r⟩ λa na _=>Map.aO na
theorem An{B:Bs}{t t2:Nat}{l l2:List (QI×W)}{l':List (QI×V)}{p:Q5}(R:av B L h σ)(n:w.top=false)(e:h.get w=some (.aj t l))(el:L w=some (p,p))(r:ai (PR (Lw L w)) l2 l'):av B L (h.set w (.aj t2 l2)) (σ.put p (.aj t2 l')):=R.put e el n ⟨rfl,l',.of n Map.a7,r⟩ λa na _=>Map.aO na
theorem r6{B:Bs}{p p':Q5}(e:L w=some (p,p))(le:Le L L')(e':L' w=some (p',p')):p'=p:=QQ acG (QK (e'.symm.trans (le _ _ e)))
theorem getD_eq{o:Option W}{d x:W}(e:o.rec (some d) some=some x):o.getD d=x:=by cases o<;>exact QK e
theorem OR.getD{o:Option W}{o':Option V}{L'':Lm}(r:OR L'' o o')(le:Le L'' L')(g:au L' w y):au L' (o.getD w) (o'.getD y):=by cases o with
 |none=>exact r▸g
 |some x=>exact Q7 r λv z=>z.1▸z.2.mono le
theorem dK.more{C:Cx}{m:String}{P P':V->Map->Prop}(k:∀v σ,P v σ->P' v σ)(x:dK C m es P σ y):dK C m es P' σ y:=
 @dK.casesOn C m es P σ (λy _=>dK C m es P' σ y) y x (λa b d e f g=>.ins a b d e f (g.mono λ_ _ z=>z.mono k λ_ _ _ q=>q)) (λa b d=>.app a b (d.mono λ_ _ z=>ao z λx l z=>⟨x,l,z.1,z.2.1,z.2.2.1,k _ _ z.2.2.2⟩)) (λa b d=>.ind a b (d.mono λ_ _ z=>az z λx l i z=>⟨x,l,i,z.1,z.2.1,z.2.2.1,z.2.2.2.1,k _ _ z.2.2.2.2⟩))
  (λa b d=>.get a b (d.mono λ_ _ z=>cm z λx l i j q z=>⟨x,l,i,j,q,z.1,z.2.1,z.2.2.1,z.2.2.2.1,z.2.2.2.2.1,k _ _ z.2.2.2.2.2⟩)) λa b d=>.zP a b (d.mono λvs σ z=>cm z λx l i j q z=>⟨x,l,i,j,q,z.1,z.2.1,z.2.2.1,z.2.2.2.1,z.2.2.2.2.1,z.2.2.2.2.2.1,z.2.2.2.2.2.2.1,by
   have g:=z.2.2.2.2.2.2.2;unfold iR at g⊢;generalize getD q x=o at g⊢
   cases o<;>exact k _ _ g⟩)
theorem G4{F:W->Prop}{N:Prop}{P:V->Map->Prop}{a:Q5}{l':List (QI×V)}{tk:Nat}{k:QI}{u:V}{o:Option W}(gr:OR (Lw L w) o (getD l' k))(fin:Oc o N F)(kn:N->P u (σ.put a (.aj tk (l'++[(k,u)]))))(ks:∀w2 v2,au (Lw L w) w2 v2->F w2->P v2 σ):iR P a l' tk k u σ:=by
 unfold iR
 cases o with
 |none=>exact aa gr (kn fin)
 |some w2=>exact Q7 gr λv2 y=>aa y.1 (ks w2 v2 y.2 fin)
theorem DW{b:Bool}{F T G:Prop}(g:b.rec F T)(kt:b=true->T->G)(kf:b=false->F->G):G:=by cases b;exact kf rfl g;exact kt rfl g
theorem Jp{α:Type}{o:Option α}{F:Prop}(g:o.rec F λ_=>False):o=none/\F:=by cases o;exact ⟨rfl,g⟩;exact g.elim
theorem N1{o:Option af}{P:Prop}{f1:List W->Prop}{f2:Nat->List (QI×W)->Prop}{f3:String->List (String×W)->Prop}(g:o.rec False λbj=>bj.rec f1 f2 f3 False)(k1:∀l,o=some (.lst l)->f1 l->P)(k2:∀t l,o=some (.aj t l)->f2 t l->P)(k3:∀n l,o=some (.obj n l)->f3 n l->P):P:=by
 cases o with
 |none=>exact g.elim
 |some c=>cases c with
  |lst l=>exact k1 l rfl g
  |aj t l=>exact k2 t l rfl g
  |obj n l=>exact k3 n l rfl g
  |cH=>exact g.elim
section
variable{m:String}{l:List W}{t0:Nat}{ld:List (QI×W)}{n:String}{lo:List (String×W)}(mm:ML es)(ok:Ok c L v)(R:av c.B L h σ)(r:au L w y)
include mm ok R r
theorem J3(e:h.get w=some (.lst l))(q:m="append")(tp:w.top=false)(g:eR es c h (wO w Q)):dK (cq c v) m es (Lf c.B L Q) σ y:=ao (R.lst e r) λp l' s=>s.2.1▸
 .app q (s.2.2.1.own tp) ((mm c h _ L v σ g ok R).mono λys σ1 z=>az z λL1 ws h1 z=>z.2.2.2.get.elim λx g=>(nc z.2.2.1 g.1).elim λu t=>g.2.get.elim λl2 g=>have o:=g.2.get;have o':=o.2.get;ao (z.2.1.lst (jg g.1) (r.mono z.1)) λp2 l2' s2=>
  have ep:=r6 (B:=c.B) s.1 z.1 s2.1
  ⟨u,l2',t.1,ep▸s2.2.2.1.own tp,dH s2.2.2.2▸dF o.1,L1,.d .none,_,z.1,Ak z.2.1 tp (jg g.1) (ep▸s2.1) (s2.2.2.2.append (.cons (pQ o'.1 t.2) .nil)),rfl,o'.2⟩)
theorem J1(e:h.get w=some (.lst l))(q:m="index")(g:eR es c h (Ba w Q)):dK (cq c v) m es (Lf c.B L Q) σ y:=ao (R.lst e r) λp l' s=>s.2.1▸
 .ind q s.2.2.1.rd ((mm c h _ L v σ g ok R).mono λys σ1 z=>az z λL1 ws h1 z=>z.2.2.2.get.elim λi g=>(bind_some g.1).elim λd t=>(bind_some t.1).elim λx t1=>(nc z.2.2.1 t1.1).elim λu t2=>(bind_some t.2).elim λxs t3=>(bind_some t3.1).elim λl2 t4=>ao (z.2.1.lst (jg t4.1) (r.mono z.1)) λp2 l2' s2=>
  have ep:=r6 (B:=c.B) s.1 z.1 s2.1;have o:=g.2.get
  ⟨d,xs,i,cJ t1.2 t2.2▸t2.1,ep▸rh s2.2.2.2 xs t4.2▸s2.2.2.1.rd,t3.2,dF o.1,L1,.d _,h1,z.1,z.2.1,rfl,o.2⟩)
theorem J2(e:h.get w=some (.aj t0 ld))(q:m="get")(g:eR es c h (Bc w Q)):dK (cq c v) m es (Lf c.B L Q) σ y:=ao (R.aj e r) λp l' s=>s.2.1▸
 .get q s.2.2.1.rd ((mm c h _ L v σ g ok R).mono λys σ1 z=>az z λL1 ws h1 z=>z.2.2.2.get.elim λpr g1=>ao (za z.2.2.1 g1.1) λu u' t=>g1.2.get.elim λk g2=>g2.2.get.elim λq g3=>have o:=g3.2.get;ao (z.2.1.aj (x9 g3.1) (r.mono z.1)) λp2 l2' s2=>
  have ep:=r6 (B:=c.B) s.1 z.1 s2.1;have kk:=tR o.1
  ⟨k,u',q.1,kd k,l2',cJ g2.1 t.2.1▸t.1,ep▸s2.2.2.1.rd,rfl,kk.1,kk.2,o.2.get.elim λw2 g4=>⟨L1,w2,h1,z.1,z.2.1,(getD_eq g4.1)▸(tY s2.2.2.2).getD Lw.le t.2.2,g4.2⟩⟩)
theorem JX(e:h.get w=some (.aj t0 ld))(q:m="setdefault")(tp:w.top=false)(g:eR es c h (A9 w Q)):dK (cq c v) m es (Lf c.B L Q) σ y:=ao (R.aj e r) λp l' s=>s.2.1▸
 .zP q (s.2.2.1.own tp) ((mm c h _ L v σ g ok R).mono λys σ1 z=>az z λL1 ws h1 z=>z.2.2.2.get.elim λpr g1=>ao (za z.2.2.1 g1.1) λu u' t=>g1.2.get.elim λk g2=>g2.2.get.elim λq g3=>have o:=g3.2.get;have o':=o.2.get;ao (z.2.1.aj (x9 g3.1) (r.mono z.1)) λp2 l2' s2=>
  have ep:=r6 (B:=c.B) s.1 z.1 s2.1;have n:=ae o.1;have kk:=tR n.1
  ⟨k,u',q.1,kd k,l2',cJ g2.1 t.2.1▸t.1,ep▸s2.2.2.1.own tp,dH s2.2.2.2▸dF o'.1,rfl,kk.1,bne_iff_ne.mp n.2,kk.2,G4 (tY (x:=k) s2.2.2.2) o'.2 (λfin=>have fin:=Gd.get fin;⟨L1,_,_,z.1,An z.2.1 tp (x9 g3.1) (ep▸s2.1) (s2.2.2.2.append (.cons ⟨rfl,pQ fin.1 t.2.2⟩ .nil)),t.2.2,BO kk.2▸fin.2⟩) λw2 v2 y fin=>⟨L1,_,_,z.1,z.2.1,y.mono Lw.le,fin⟩⟩)
theorem J0(e:h.get w=some (.obj n lo))(q:look lo m=none)(g:MI n m λf=>eR es c h (Bb c f w Q)):dK (cq c v) m es (Lf c.B L Q) σ y:=ao (R.obj e r) λp l' s=>s.2.1▸
 MI.elim g λf g=>.ins s.2.2.2.1 s.2.2.2.2.1 (Kt s.2.2.2.2.2 q) g.1.1 g.1.2 ((mm c h _ L v σ g.2 ok R).mono λys σ1 z=>az z λL1 ws h1 z=>have o:=z.2.2.2.get;(o.2.at o.1 z.2.1 (.cons (s.2.1▸r.mono z.1) z.2.2.1)).mono (λ_ _ q=>q.more z.1) (ok.more z.1).X)
end
theorem JZ{m:String}{args:(List W->Hs->Prop)->Prop}(mm:ML es)(ha:∀{F},args F->eR es c h F)(g:iO c m args h w Q)(ok:Ok c L v)(R:av c.B L h σ)(r:au L w y):dK (cq c v) m es (Lf c.B L Q) σ y:=
 N1 g (λl e g=>DW g (λq g=>have g:=g.get;J3 mm ok R r e (Q6.mp q) (vo g.1) (ha g.2)) λ_ g=>have g:=g.get;J1 mm ok R r e (Q6.mp g.1) (ha g.2))
  (λt l e g=>DW g (λq g=>J2 mm ok R r e (Q6.mp q) (ha g)) λ_ g=>have g:=g.get;have g':=g.2.get;JX mm ok R r e (Q6.mp g.1) (vo g'.1) (ha g'.2))
  λn l e g=>have g:=Jp g;J0 mm ok R r e g.1 (MI.elim g.2 λf g=>⟨f,g.1,ha g.2⟩)
theorem MV.met{m:String}(m':MV a)(mm:ML es):MV (.met a m es):=λc h Q L v σ g ok R=>have g:=g.get;.met (sW g.1) (m'.go g.2 ok R λL1 w y h1 σ1 le ok1 R1 r g=>(JZ mm (λz=>z) g ok1 R1 r).more λ_ _ q=>q.more le)
end
section
variable{c:Wc}{h:Hs}{L L':Lm}{v:Vx}{σ:Map}{a b:E}{es:Es}{Q:W->Hs->Prop}{ws:List W}{vs:List V}{w x:W}{y z:V}
theorem J8{xs:List QI}:ai (au L) (xs.map W.d) (xs.map V.d):=xs.rec .nil λd t ih=>.cons rfl ih
theorem Lh{l:List (QI×W)}{l':List (QI×V)}(r:ai (PR (Lw L w)) l l'):ai (au L) (l.map λp=>W.d p.1) (l'.map λp=>V.d p.1):=by
 induction r with
 |nil=>exact .nil
 |cons r _ ih=>exact .cons (QQ V.d r.1.symm) ih
theorem rY{B:Bs}{q:Nat×List W}(R:av B L h σ)(r:au L w y)(e:cc h w=some q):∃l',Src B σ q.1 y l'/\ai (au L) q.2 l':=by
 unfold cc at e
 cases g:h.get w with
 |none=>rw [g] at e;exact (map_some e).elim λxs s=>s.2▸mO s.1 r▸⟨_,.tup,J8⟩
 |some bj=>
  rw [g] at e
  cases bj with
  |lst l=>exact have o:=cw e;ao (R.lst g r) λp l' s=>QK o.2▸s.2.1▸⟨l',.lst s.2.2.1.rd (dH s.2.2.2▸dF o.1),ql s.2.2.2⟩
  |aj t l=>exact have o:=cw e;have n:=ae o.1;ao (R.aj g r) λp l' s=>QK o.2▸s.2.1▸⟨_,.aj ((Q6.mp n.1)▸s.2.2.1.rd) (dH s.2.2.2▸dF n.2),Lh s.2.2.2⟩
  |obj _ _=>exact aX e
  |cH=>exact aX e
theorem Rf.fun(r:Rf L w y)(r':Rf L w z):y=z:=r.elim λp s=>r'.elim λp' s'=>s.2.trans ((QK (s.1.symm.trans s'.1))▸s'.2.symm)
theorem au.fun:au L w y->au L w z->y=z:=by cases w with
 |d _=>exact λr r'=>r.trans r'.symm
 |bb=>exact λr r'=>r.trans r'.symm
 |_=>exact Rf.fun
theorem PM{vs vs':List V}(r:ai (au L) ws vs):ai (au L) ws vs'->vs=vs':=by
 induction r generalizing vs' with
 |nil=>exact λr'=>(all_nil r').symm
 |cons r _ ih=>exact λr'=>ao (all_cons r') λu us s=>s.1▸(r.fun s.2.1)▸(ih s.2.2)▸rfl
theorem vD{B:Bs}{L1:Lm}{h1:Hs}{σ1:Map}{q:Nat×List W}{l':List V}(r:au L w y)(al:ai (au L) q.2 l')(le:Le L L1)(R1:av B L1 h1 σ1)(e:cc h1 w=some q):Src B σ1 q.1 y l':=(rY R1 (r.mono le) e).elim λl2 s=>PM (al.imp λ_ _ z=>z.mono le) s.2▸s.1
theorem Ok.el{n:String}(r:au L w y)(ok:Ok c L v):Ok (c.el n w) L ⟨(n,y)::v.ρ,[],λ_ _ _=>False⟩:=
 ⟨λx u e=>by
   have e:b9 (x==n) (some w) (look c.ρ x)=some u:=e;by_cases q:x=n
   ·rw [Q6.mpr q] at e;exact ⟨y,q▸lookup_cons_self,QK e▸r⟩
   ·rw [Q3.mpr q] at e;exact (ok.ρ x u e).imp λy' s=>⟨(fG q).trans s.1,s.2⟩,
  λ_ _=>rfl,λp q σ z=>ao z λ_ _ z=>z.2.2,λ_=>rfl⟩
def PY(T:W->Hs->(Bool->Hs->Prop)->Prop)(TV:kJ)(n:String)(c:Wc):Prop:=∀(L:Lm) v h σ w G,Ok (c.el n w) L v->av c.B L h σ->T w h G->∀G':Bool->Map->Prop,(∀b L2 h σ,Le L L2->av c.B L2 h σ->G b h->G' b σ)->TV (cq (c.el n w) v) σ G'
theorem Cv{n:String}{P:Hs->Prop}{T:W->Hs->(Bool->Hs->Prop)->Prop}{TV:kJ}{PV:Map->Prop}{F:List W->Hs->Prop}{G:List V->Map->Prop}{l:List W}{l':List V}(m:MV a)(mt:PY T TV n c)
  (hP:∀L1 h σ,Le L L1->av c.B L1 h σ->P h->PV σ) (hF:∀L1 ws vs h σ,Le L L1->av c.B L1 h σ->ai (au L1) ws vs->F ws h->G vs σ) (r:ai (au L) l l'):
  ∀(L1:Lm) h σ acc acc',Le L L1->Ok c L1 v->av c.B L1 h σ->ai (au L1) acc acc'->uY P T (λw h Q=>aZ a (c.el n w) h Q) F l acc h->oX (cq c v) n TV a PV G l' acc' σ:=by
 induction r with
 |nil=>exact λL1 h σ acc acc' le ok R ra g=>⟨hP L1 h σ le R g.1,hF L1 acc acc' h σ le R ra g.2⟩
 |cons r _ ih=>exact λL1 h σ acc acc' le ok R ra g=>⟨hP L1 h σ le R g.1,mt L1 _ h σ _ _ (ok.el (r.mono le)) R g.2 _ λb L2 h2 σ2 le2 R2 g2=>have g2:=g2.get;
  ⟨λe=>m.go (g2.1 e) ((ok.more le2).el (r.mono (le.trans le2))) R2 λL3 u z h3 σ3 le3 ok3 R3 r3 g3=>ih L3 h3 σ3 _ _ ((le.trans le2).trans le3) ((ok.more le2).more le3) R3 ((ra.imp λ_ _ z=>(z.mono le2).mono le3).append (.cons r3 .nil)) g3,
   λe=>ih L2 h2 σ2 acc acc' (le.trans le2) (ok.more le2) R2 (ra.imp λ_ _ z=>z.mono le2) (g2.2 e)⟩⟩
theorem Dz{n:String}{G:V->Map->Prop}(m:MV b)(m':MV a)(g:aZ (.comp n b a) c h Q)(ok:Ok c L v)(R:av c.B L h σ)(k:∀y σ,Lf c.B L Q y σ->G y σ):c.h=false/\Ev (cq c v) b σ (jD (cq c v) n (λ_ σ Q=>Q true σ) a (kP G)):=have g:=Gd.get g;⟨sW g.1,m.go g.2 ok R λL1 w y h1 σ1 le ok1 R1 r g=>g.get.elim λq g=>(rY R1 r g.1).elim λl' s=>⟨q.1,l',s.1,
 Cv m' (λL v h σ w G ok R g G' k=>k true L h σ .refl R g) (λL2 h2 σ2 le2 R2 e=>vD r s.2 le2 R2 e) (λL2 ws vs h2 σ2 le2 R2 ra f a fa=>k _ _ ((lN R2 ra f a fa).more (le.trans le2))) s.2 L1 h1 σ1 [] [] .refl ok1 R1 .nil g.2⟩⟩
theorem DD{n:String}{t:E}{G:V->Map->Prop}(m:MV b)(mt:MT t)(m':MV a)(g:aZ (.gj n b t a) c h Q)(ok:Ok c L v)(R:av c.B L h σ)(k:∀y σ,Lf c.B L Q y σ->G y σ):c.h=false/\Ev (cq c v) b σ (jD (cq c v) n (λc σ Q=>Ts c t σ Q) a (kP G)):=have g:=Gd.get g;⟨sW g.1,m.go g.2 ok R λL1 w y h1 σ1 le ok1 R1 r g=>g.get.elim λq g=>(rY R1 r g.1).elim λl' s=>⟨q.1,l',s.1,
 Cv m' (λL v h σ w G ok R g G' k=>(mt _ h G L v σ g ok R).mono λb σ2 z=>ao z λL2 h2 z=>k b L2 h2 σ2 z.1 z.2.1 z.2.2) (λL2 h2 σ2 le2 R2 e=>vD r s.2 le2 R2 e) (λL2 ws vs h2 σ2 le2 R2 ra f a fa=>k _ _ ((lN R2 ra f a fa).more (le.trans le2))) s.2 L1 h1 σ1 [] [] .refl ok1 R1 .nil g.2⟩⟩
theorem MV.comp{n:String}(m:MV b)(m':MV a):MV (.comp n b a):=λc h Q L v σ g ok R=>have z:=Dz m m' g ok R λ_ _ q=>q;.comp z.1 z.2
theorem MV.gj{n:String}{t:E}(m:MV b)(mt:MT t)(m':MV a):MV (.gj n b t a):=λc h Q L v σ g ok R=>have z:=DD m mt m' g ok R λ_ _ q=>q;.gj z.1 z.2
end
def ME(e:E):Prop:=MV e/\MT e
def All(es:Es):Prop:=es.rec (motive_1:=λ_=>PUnit) (λ_=>⟨⟩) ⟨⟩ (λ_=>⟨⟩) (λ_=>⟨⟩) (λ_ _=>⟨⟩) (λ_ _=>⟨⟩) (λ_ _ _ _ _=>⟨⟩) (λ_ _ _ _ _=>⟨⟩) (λ_ _=>⟨⟩) (λ_ _=>⟨⟩) (λ_ _=>⟨⟩) (λ_ _ _ _ _ _=>⟨⟩) (λ_ _=>⟨⟩) (λ_ _=>⟨⟩) (λ_ _ _=>⟨⟩) (λ_ _=>⟨⟩) (λ_ _ _=>⟨⟩) (λ_ _=>⟨⟩) (λ_ _ _ _=>⟨⟩) (λ_ _ _ _=>⟨⟩) (λ_ _ _ _=>⟨⟩) (λ_ _ _=>⟨⟩) (λ_ _ _ _ _=>⟨⟩) (λ_ _ _ _ _=>⟨⟩) (λ_ _ _ _ _ _ _=>⟨⟩) True λe _ _ r=>ME e/\r
theorem cQ{e:E}(h:∀c h Q,¬jO e c h Q):MT e:=λc hh Q L v σ g ok R=>(h c hh Q g).elim
theorem oJ:∀{es:Es},All es->ML es
 |.nil,_=>.nil
 |.cons _ es,k=>.cons k.1.1 (oJ k.2)
theorem yF:∀{es:Es},All es->MB es
 |.nil,_=>.nil
 |.cons _ es,k=>.cons k.1.2 (yF k.2)
theorem yE:∀{es:Es},All es->MO es
 |.nil,_=>λop c h Q L v σ g ok R=>g.elim
 |.cons _ .nil,k=>.one k.1.1
 |.cons _ (.cons e es),k=>.cons k.1.1 (yE k.2)
theorem Ee:∀{es:Es},All es->MP es
 |.nil,_=>.nil
 |.cons _ .nil,_=>λc h Q L v σ g ok R=>g.elim
 |.cons _ (.cons _ es),k=>.cons k.1.1 k.2.1.1 (Ee k.2.2)
theorem PO:∀{es:Es},All es->MV (.aj es)
 |.nil,_=>.yd
 |.cons _ .nil,_=>.NA
 |.cons _ (.cons _ es),k=>.aj k.1.1 k.2.1.1 (Ee k.2.2)
theorem sound e:ME e:=@E.rec ME All (λ_=>⟨.lit,cQ λ_ _ _=>id⟩)
 ⟨.bb,cQ λ_ _ _=>id⟩
 (λ_=>⟨.lv,.lv⟩)
 (λ_=>⟨.gv,cQ λ_ _ _=>id⟩)
 (λ_ _=>⟨.gk,cQ λ_ _ _=>id⟩)
 (λ_ e=>⟨.neg e.1,cQ λ_ _ _=>id⟩)
 (λ_ _ _ a b=>⟨.bin a.1 b.1,cQ λ_ _ _=>id⟩)
 (λ_ _ _ a b=>⟨.cmp a.1 b.1,.cmp a.1 b.1⟩)
 (λ_ es=>⟨.bor (yE es),.bor (yF es)⟩)
 (λ_ es=>⟨.band (yE es),.band (yF es)⟩)
 (λ_ e=>⟨λc h Q L v σ g ok R=>g.elim,.nt e.2⟩)
 (λ_ _ _ t a b=>⟨.fZ t.2 a.1 b.1,cQ λ_ _ _=>id⟩)
 (λ_ es=>⟨.tup (oJ es),cQ λ_ _ _=>id⟩)
 (λ_ es=>⟨.lst (oJ es),cQ λ_ _ _=>id⟩)
 (λ_ _ e=>⟨.rep e.1,cQ λ_ _ _=>id⟩)
 (λ_ es=>⟨PO es,cQ λ_ _ _=>id⟩)
 (λ_ _ e=>⟨.aF e.1,cQ λ_ _ _=>id⟩)
 (λ_ _=>⟨.iG,cQ λ_ _ _=>id⟩)
 (λ_ _ a b=>⟨.idx a.1 b.1,.idx a.1 b.1⟩)
 (λ_ _ a b=>⟨.lr a.1 b.1,cQ λ_ _ _=>id⟩)
 (λ_ _ a b=>⟨.ly a.1 b.1,cQ λ_ _ _=>id⟩)
 (λ_ _ es=>⟨.call (oJ es),.call (oJ es)⟩)
 (λ_ _ _ e es=>⟨.met e.1 (oJ es),cQ λ_ _ _=>id⟩)
 (λ_ _ _ it e=>⟨.comp it.1 e.1,cQ λ_ _ _=>id⟩)
 (λ_ _ _ _ it t e=>⟨.gj it.1 t.2 e.1,cQ λ_ _ _=>id⟩)
 trivial
 (λ_ _ e es=>⟨e,es⟩) e
end
section
open _root_.PySem _root_.PySem.Calls PyProof.Rows
open scoped Classical
def bQ(L:Lm)(ρ:Ro)(ρ':aK):Prop:=∀x w,look ρ x=some w->∃y,ρ'.lookup x=some y/\au L w y
def eP(B:Bs)(L:Lm)(F:Ro->Hs->Prop)(ρ':aK)(σ:Map):Prop:=∃L' ρ h,Le L L'/\av B L' h σ/\bQ L' ρ ρ'/\F ρ h
noncomputable def fq(B:Bs)(L:Lm)(K:Kw):bK:=⟨eP B L K.ay,jB B L K.ret,eP B L K.cnt⟩
def MS(s:S):Prop:=∀(c:Wc) h K L v σ,wpS s c h K->Ok c L v->av c.B L h σ->br (cq c v) s σ (fq c.B L K)
def iP(s:Ss):Prop:=∀(c:Wc) h K L v σ,aD s c h K->Ok c L v->av c.B L h σ->Ex (cq c v) s σ (fq c.B L K)
structure oU(K K':bK):Prop where
 n:∀ρ σ,K.ay ρ σ->K'.ay ρ σ
 r:∀v σ,K.ret v σ->K'.ret v σ
 c:∀ρ σ,K.cnt ρ σ->K'.cnt ρ σ
section
variable{c:Wc}{h:Hs}{L L':Lm}{v:Vx}{σ:Map}{a b e:E}{es:Es}{ws:List W}{vs:List V}{w:W}{y:V}{K K':bK}
theorem bL.mono{c:Cx}{A:Rg}{env:Env}{sc:RE}{φ₀:Map}{h₀:Rn}{s:QT}{P P':aK->Map->Prop}(k:∀ρ σ,P ρ σ->P' ρ σ)(x:bL c A env sc φ₀ h₀ P s):bL c A env sc φ₀ h₀ P' s:=az x λρ σ φ y=>⟨ρ,σ,φ,k _ _ y.1,y.2⟩
theorem bG.mono{c:Cx}{A:Rg}{env:Env}{sc:RE}{φ₀:Map}{h₀:Rn}{s:QT}{f:ZE}(k:oU K K')(x:bG c A env sc φ₀ h₀ K f s):bG c A env sc φ₀ h₀ K' f s:=@Flow.casesOn (λf=>bG c A env sc φ₀ h₀ K f s->bG c A env sc φ₀ h₀ K' f s) f (λx=>bL.mono k.n x) (λx=>x) (λx=>bL.mono k.c x) (λu x=>az x λv σ φ y=>⟨v,σ,φ,k.r _ _ y.1,y.2⟩) x
theorem br.mono{c:Cx}{s:S}(x:br c s σ K)(k:oU K K'):br c s σ K':=λA env sc φ₀ φ s z t hh m S=>aG (x A env sc φ₀ φ s z t hh m S) (λ_ _ p=>bG.mono k p)
theorem Ex.mono{c:Cx}{s:Ss}(x:Ex c s σ K)(k:oU K K'):Ex c s σ K':=λA env sc φ₀ φ s z t hh m S=>aG (x A env sc φ₀ φ s z t hh m S) (λ_ _ p=>bG.mono k p)
theorem eP.more{B:Bs}{F:Ro->Hs->Prop}{ρ:aK}(x:Le L L')(z:eP B L' F ρ σ):eP B L F ρ σ:=az z λL1 ρ' h z=>⟨L1,ρ',h,x.trans z.1,z.2⟩
theorem fq.more{B:Bs}{K:Kw}(x:Le L L'):oU (fq B L' K) (fq B L K):=⟨λ_ _ z=>eP.more x z,λ_ _ z=>jB.more x z,λ_ _ z=>eP.more x z⟩
theorem bQ.mono{ρ:Ro}{ρ':aK}(x:Le L L')(r:bQ L ρ ρ'):bQ L' ρ ρ':=λy w e=>(r y w e).imp λu z=>⟨z.1,z.2.mono x⟩
theorem bQ.put{ρ:Ro}{ρ':aK}{x:String}(r:bQ L ρ ρ')(g:au L w y):bQ L (dk ρ x w) ((x,y)::ρ'):=λz u e=>(Kr e).elim (λq=>⟨y,q.1▸lookup_cons_self,q.2▸g⟩) λq=>(r z u q.2).imp λt s=>⟨(fG q.1).trans s.1,s.2⟩
theorem Gu{ρ' ρ:Ro}{x:String}{u:W}(s:bz ρ' ρ)(e:look ρ' x=some u):look ρ x=some u:=by
 induction ρ' with
 |nil=>exact aX e
 |cons p t ih=>
  have e:b9 (x==p.1) (some p.2) (look t x)=some u:=e
  cases q:x==p.1 with
  |true=>rw [q] at e;exact (Q6.mp q).symm▸s.1.trans e
  |false=>rw [q] at e;exact ih s.2 e
theorem bQ.sub{ρ ρ1:Ro}{ρ':aK}(r:bQ L ρ ρ')(s:bz ρ1 ρ):bQ L ρ1 ρ':=λx w e=>r x w (Gu s e)
theorem Ok.at{ρ:Ro}{ρ':aK}(k:Ok c L v)(r:bQ L ρ ρ'):Ok (c.at ρ) L ⟨ρ',v.κ,v.X⟩:=⟨r,k.κ,k.X,k.u4⟩
theorem give{B:Bs}{Q:W->HP->Prop}(le:Le L L')(R:av B L' h σ)(r:au L' w y)(g:Gd w.nt (Q w h.p)):jB B L Q y σ:=have o:=g.get;⟨Ln L',w,h.p,le.ln,R.drop λ_ _ _ _ _=>⟨rfl,rfl⟩,r.nt o.1,o.2⟩
theorem B3{xs:List String}(ok:Ok c L v)(e:(xs.all λx=>cS (look c.κ x))=true):∀x∈xs,(cq c v).κ.lookup x=none:=λx m=>ok.κ x (Rp.mp e x m)
theorem Lp{P:E->Prop}(q:∀e,Uu (kE e) 1=false->P e)(c1:∀n it el,P (.comp n it el))(c2:∀n it t el,P (.gj n it t el)) e:P e:=by
 cases e with
 |comp n it el=>exact c1 n it el
 |gj n it t el=>exact c2 n it t el
 |_=>exact q _ (Eq.refl false)
theorem MS.asg{x:String}:MS (.asg x e):=Lp (P:=λe=>MS (.asg x e))
 (λe q c h K L v σ g ok R=>.asg q (ok.κ x g.get.1) (((sound e).1 c h _ L v σ g.get.2 ok R).mono λy σ z=>az z λL1 w h1 z=>⟨L1,_,h1,z.1,z.2.1,bQ.put (bQ.mono z.1 ok.ρ) z.2.2.1,z.2.2.2⟩))
 (λn it el c h K L v σ g ok R=>.PC (ok.κ x g.get.1) (Dz (sound it).1 (sound el).1 g.get.2 ok R λy σ z=>az z λL1 w h1 z=>⟨L1,_,h1,z.1,z.2.1,bQ.put (bQ.mono z.1 ok.ρ) z.2.2.1,z.2.2.2⟩).2)
 (λn it t el c h K L v σ g ok R=>.PB (ok.κ x g.get.1) (DD (sound it).1 (sound t).2 (sound el).1 g.get.2 ok R λy σ z=>az z λL1 w h1 z=>⟨L1,_,h1,z.1,z.2.1,bQ.put (bQ.mono z.1 ok.ρ) z.2.2.1,z.2.2.2⟩).2) e
theorem O1{xs:List String}:∀{ds:List QI}{ρ:Ro}{ρ':aK},bQ L ρ ρ'->bQ L (DZ xs ds ρ) (binds xs ds ρ'):=by
 induction xs with
 |nil=>exact λr=>r
 |cons x xs ih=>
  intro ds ρ ρ' r
  cases ds with
  |nil=>exact r
  |cons d ds=>exact ih (r.put rfl)
theorem zu{xs:List String}{C:Cx}{ρ:Ro}{Q:Ro->Prop}{Q':aK->Prop}(g:gY xs w ρ Q)(r:au L w y)(rr:bQ L ρ C.ρ)(k:∀ρ ρ',bQ L ρ ρ'->Q ρ->Q' ρ'):jC Q' C xs y:=by
 unfold gY at g
 cases e:one xs with
 |some x=>rw [e] at g;exact .one (v7 e) (k _ _ (rr.put r) g)
 |none=>rw [e] at g;exact (Wo.get g).elim λds g=>have o:=g.2.get;have n:=ae o.1;mO g.1 r▸.tup (oE n.1) (Vq n.2) (k _ _ (O1 rr) o.2)
theorem MS.fP{xs:List String}:MS (.fP xs e):=λc h K L v σ g ok R=>have g:=Gd.get g;have n:=ae g.1;.fP (Vq n.1) (B3 ok n.2) ((sound e).1.go g.2 ok R λL1 w y h1 σ1 le ok1 R1 r g=>zu g r ok1.ρ λρ ρ' rr q=>⟨L1,ρ,h1,le,R1,rr,q⟩)
theorem jG{B:Bs}{F:Ro->Hs->Prop}{ρ:Ro}{ρ':aK}(le:Le L L')(R:av B L' h σ)(r:bQ L' ρ ρ')(q:F ρ h):eP B L F ρ' σ:=⟨L',ρ,h,le,R,r,q⟩
theorem Ip{B:Bs}{n:String}{l l2:Ro}{l':List (String×V)}{p:Q5×Q5}{l0:List (String×V)}(R:av B L h σ)(tp:w.top=false)(e:h.get w=some (.obj n l))(el:L w=some p)(e1:σ p.1=some (.ins n p.2))(e2:σ p.2=some (.aF l0))(r:ai (PR (Lw L w)) l2 l'):av B L (h.set w (.obj n l2)) (σ.put p.2 (.aF l')):=
 have ne:=λq=>nomatch(q▸e1).symm.trans e2
 R.put e el tp ⟨tp,l',(Map.aO ne).trans e1,Map.a7,r⟩ λa _ nb=>Map.aO nb
theorem MS.gp{x:String}{o:E}:MS (.gp o x e):=λc h K L v σ g ok R=>.gp ((sound e).1.go g ok R λL1 w y h1 σ1 le ok1 R1 r g=>(sound o).1.go g ok1 R1 λL2 u z h2 σ2 le2 ok2 R2 r2 g=>g.get.elim λq g=>have gg:=g.2.get;have n:=ae gg.1;ao (R2.obj (wb g.1) r2) λp l' s=>
 ⟨p.1,q.1,p.2,l',s.2.1,s.2.2.2.1,s.2.2.2.2.1,dH s.2.2.2.2.2▸dF n.1,jG (le.trans le2) (Ip R2 s.2.2.1 (wb g.1) s.1 s.2.2.2.1 s.2.2.2.2.1 (Ap s.2.2.2.2.2 (pQ n.2 (r.mono le2)))) ok2.ρ gg.2⟩)
theorem GX{R:W->V->Prop}{as:List W}{bs:List V}(x:ai R as bs){i:Nat}(r:R w y):ai R (upd as i w) (bs.set i y):=by refine aa pb ?_;exact x.set r i
theorem GY{k' u:W}{kv z:V}{F:Hs->Prop}{Q:Map->Prop}(g:Ei h w k' u F)(R:av c.B L h σ)(r:au L w y)(rk:au L k' kv)(ru:au L u z)(q:∀h σ,av c.B L h σ->F h->Q σ):oR Q σ y kv z:=by
 have g:=Gd.get g;have n:=ae g.1;have tp:=vo n.1;have g:=g.2
 cases e:h.get w with
 |none=>rw [e] at g;exact g.elim
 |some bj=>
  rw [e] at g
  cases bj with
  |lst l=>exact (Wo.get g).elim λm g=>(bind_some g.1).elim λi t=>have o:=g.2.get;have n':=ae o.1;ao (R.lst e r) λp l' s=>d8 t.1 rk▸wD t.2▸s.2.1▸.lst (s.2.2.1.own tp) (R7 m) (R5.mpr (dF n'.1)) (dH s.2.2.2▸dF n'.2) (q _ _ (Ak R tp e s.1 (GX s.2.2.2 (pQ n.2 ru))) o.2)
  |aj t l=>exact (Wo.get g).elim λx g=>have o:=g.2.get;have kk:=tR o.1;have o':=o.2.get;ao (R.aj e r) λp l' s=>cJ g.1 rk▸s.2.1▸.aj (s.2.2.1.own tp) rfl kk.1 kk.2 (dH s.2.2.2▸dF o'.1) (q _ _ (An R tp e s.1 (Ao s.2.2.2 (pQ n.2 ru))) (BO kk.2▸o'.2))
  |obj _ _=>exact g.elim
  |cH=>exact g.elim
theorem MS.kD{o i:E}:MS (.kD o i e):=λc h K L v σ g ok R=>.kD ((sound e).1.go g ok R λL1 w y h1 σ1 le ok1 R1 r g=>(sound o).1.go g ok1 R1 λL2 u z h2 σ2 le2 ok2 R2 r2 g=>(sound i).1.go g ok2 R2 λL3 k' kv h3 σ3 le3 ok3 R3 r3 g=>GY g R3 (r2.mono le3) r3 ((r.mono le2).mono le3) λh σ R q=>jG ((le.trans le2).trans le3) R ok3.ρ q)
theorem MS.aug{x:String}:MS (.aug x e):=λc h K L v σ g ok R=>have g:=Gd.get g;have n:=ae g.1;g.2.get.elim λi g=>(bind_some g.1).elim λu t=>(ok.ρ x u t.1).elim λy s=>.aug n.2 (ok.κ x n.1) (d8 t.2 s.2▸s.1) ((sound e).1.go g.2 ok R λL1 w y h1 σ1 le ok1 R1 r g=>g.get.elim λj g=>⟨j,d8 g.1 r,jG le R1 (bQ.put (w:=.d (.int (i+j))) ok1.ρ rfl) g.2⟩)
theorem MS.ex:MS (.ex e):=λc h K L v σ g ok R=>.ex ((sound e).1.go g ok R λL1 w y h1 σ1 le ok1 R1 r g=>jG le R1 ok1.ρ g)
theorem MS.ret:MS (.ret e):=λc h K L v σ g ok R=>.ret ((sound e).1.go g ok R λL1 w y h1 σ1 le ok1 R1 r g=>give le R1 r g)
theorem MS.g8:MS .g8:=λc h K L v σ g ok R=>.g8 (give (w:=.d .none) .refl R rfl g)
theorem MS.cont:MS .cont:=λc h K L v σ g ok R=>.cont (jG .refl R ok.ρ g)
theorem MS.ifs{s s':Ss}(m:iP s)(m':iP s'):MS (.ifs e s s'):=λc h K L v σ g ok R=>.ifs (((sound e).2 c h _ L v σ g ok R).mono λd σ1 z=>iQ.cond z (λL1 h1 le R1 g=>(m c h1 K L1 v σ1 g (ok.more le) R1).mono (fq.more le)) λL1 h1 le R1 g=>(m' c h1 K L1 v σ1 g (ok.more le) R1).mono (fq.more le))
theorem MS.iX{s:Ss}(m:iP s):MS (.iX e s):=λc h K L v σ g ok R=>ao g λJ n g=>.iX (λk ρ' σ=>eP c.B L (J k) ρ' σ) n (g.1.elim λρ z=>jG .refl R (bQ.sub ok.ρ z.1) z.2) λk ρ' σ1 z=>az z λL1 ρ h1 z=>
 have ok1:=(ok.more z.1).at z.2.2.1
 ((sound e).2 (c.at ρ) h1 _ L1 ⟨ρ',v.κ,v.X⟩ σ1 (g.2 k ρ h1 z.2.2.2) ok1 z.2.1).mono λd σ2 y=>iQ.cond y
  (λL2 h2 le R2 g=>(m (c.at ρ) h2 _ L2 ⟨ρ',v.κ,v.X⟩ σ2 g (ok1.more le) R2).mono
   (have nx:∀ρ σ,eP c.B L2 (λρ h=>∃m,m<k/\∃ρ',bz ρ' ρ/\J m ρ' h) ρ σ->uP (λk ρ' σ=>eP c.B L (J k) ρ' σ) k ρ σ:=λρ σ x=>az x λL3 ρ3 h3 x=>x.2.2.2.elim λm t=>t.2.elim λρ4 u=>⟨m,t.1,L3,ρ4,h3,(z.1.trans le).trans x.1,x.2.1,bQ.sub x.2.2.1 u.1,u.2⟩
   ⟨nx,λ_ _ x=>jB.more (z.1.trans le) x,nx⟩)) λL2 h2 le R2 g=>jG (z.1.trans le) R2 (ok1.more le).ρ g
theorem rI{P:Hs->Prop}{PV:Map->Prop}{xs:List String}{s:Ss}{K:Kw}{l:List W}{l':List V}(m:iP s)(ok0:Ok c L v)(hP:∀L1 h σ,Le L L1->av c.B L1 h σ->P h->PV σ)(r:ai (au L) l l'):
  ∀(L1:Lm) h σ ρ ρ',Le L L1->bQ L1 ρ ρ'->av c.B L1 h σ->bI P (gY xs) (bS (aD s) c.toWk) K l ρ h->Turn (cq c v) xs s PV (fq c.B L K) l' ρ' σ:=by
 induction r with
 |nil=>exact λL1 h σ ρ ρ' le rr R g=>⟨hP L1 h σ le R g.1,g.2.elim λρ2 g=>jG le R (rr.sub g.1) g.2⟩
 |cons r _ ih=>exact λL1 h σ ρ ρ' le rr R g=>⟨hP L1 h σ le R g.1,g.2.elim λρ2 g=>zu g.2 (r.mono le) (rr.sub g.1) λρ1 ρ1' rr1 q=>(m (c.at ρ1) h _ L1 ⟨ρ1',v.κ,v.X⟩ σ q ((ok0.more le).at rr1) R).mono
  (have nx:=λρ2 σ2 x=>az (x:eP c.B L1 _ ρ2 σ2) λL2 ρ3 h2 x=>ih L2 h2 σ2 ρ3 ρ2 (le.trans x.1) x.2.2.1 x.2.1 x.2.2.2
  ⟨nx,λ_ _ x=>jB.more le x,nx⟩)⟩
theorem Turn.more{C:Cx}{xs:List String}{s:Ss}{P:Map->Prop}{l:List V}(k:oU K K'):∀{ρ:aK}{σ:Map},Turn C xs s P K l ρ σ->Turn C xs s P K' l ρ σ:=by
 induction l with
 |nil=>exact λg=>⟨g.1,k.n _ _ g.2⟩
 |cons x l ih=>exact λ{ρ σ} g=>⟨g.1,@jC.casesOn _ (C.at ρ) xs (λx _=>jC _ (C.at ρ) xs x) x g.2 (λe q=>.one e (q.mono ⟨λ_ _ z=>ih z,k.r,λ_ _ z=>ih z⟩)) λa b q=>.tup a b (q.mono ⟨λ_ _ z=>ih z,k.r,λ_ _ z=>ih z⟩)⟩
theorem MS.jr{xs:List String}{s:Ss}(m:iP s):MS (.jr xs e s):=λc h K L v σ g ok R=>have g:=Gd.get g;.jr (B3 ok g.1) ((sound e).1.go g.2 ok R λL1 w y h1 σ1 le ok1 R1 r g=>g.get.elim λq g=>(rY R1 r g.1).elim λl' t=>⟨q.1,l',t.1,(rI m ok1 (λL2 h2 σ2 le2 R2 e=>vD r t.2 le2 R2 e) t.2 L1 h1 σ1 c.ρ v.ρ .refl ok1.ρ R1 g.2).more (fq.more le)⟩)
theorem z8{i j:Int}:ai (au L) (fA i j) (m4 i j):=by
 unfold fA m4
 induction List.range (j -i).toNat with
 |nil=>exact .nil
 |cons x t ih=>exact .cons rfl ih
theorem MS.iC{x:String}{hi:E}{s:Ss}(m:iP s):MS (.iC x e hi s):=λc h K L v σ g ok R=>have g:=Gd.get g;.iC (ok.κ x g.1) ((sound e).1.go g.2 ok R λL1 w y h1 σ1 le ok1 R1 r g=>g.get.elim λi g=>⟨i,d8 g.1 r,(sound hi).1.go g.2 ok1 R1 λL2 u z h2 σ2 le2 ok2 R2 r2 g=>g.get.elim λj g=>have o:=g.2.get;have n:=ae o.1;⟨j,d8 g.1 r2,mW n.1,mW n.2,
 (rI m ok2 (λ_ _ _ _ _ _=>trivial) z8 L2 h2 σ2 c.ρ v.ρ .refl ok2.ρ R2 o.2).more (fq.more (le.trans le2))⟩⟩)
theorem MS.f6{x:String}{s:Ss}(m:iP s):MS (.f6 x e s):=λc h K L v σ g ok R=>have g:=Gd.get g;.f6 (ok.κ x g.1) ((sound e).1.go g.2 ok R λL1 w y h1 σ1 le ok1 R1 r g=>g.get.elim λj g=>have o:=g.2.get;⟨j,d8 g.1 r,⟨by decide,by decide⟩,mW o.1,
 (rI m ok1 (λ_ _ _ _ _ _=>trivial) z8 L1 h1 σ1 c.ρ v.ρ .refl ok1.ρ R1 o.2).more (fq.more le)⟩)
theorem Dc:∀{xs:List QI}{k:Nat},ai (au L) (oq k xs) (ot k xs)
 |[],_=>.nil
 |_::xs,k=>.cons rfl (Dc)
theorem MS.js{x z:String}{s:Ss}(m:iP s):MS (.js x z e s):=λc h K L v σ g ok R=>have g:=Gd.get g;have n:=ae g.1;.js (λu q=>(QZ.mp q).elim (λq=>q▸ok.κ x n.1) λq=>QW.mp q▸ok.κ z n.2) ((sound e).1.go g.2 ok R λL1 w y h1 σ1 le ok1 R1 r g=>g.get.elim λxs g=>⟨xs,mO g.1 r,
 (rI m ok1 (λ_ _ _ _ _ _=>trivial) Dc L1 h1 σ1 c.ρ v.ρ .refl ok1.ρ R1 g.2).more (fq.more le)⟩)
theorem MS.raise{k:String}{e':E}:MS (.raise k e e'):=λc h K L v σ g ok R=>have g:=Gd.get g;(Q6.mp g.1).symm▸.raise ((sound e).1.go g.2 ok R λL1 w y h1 σ1 le ok1 R1 r g=>g.get.elim λp g=>⟨p,cJ g.1 r,(sound e').1.go g.2 ok1 R1 λL2 u z h2 σ2 le2 ok2 R2 r2 g=>g.get.elim λq g=>⟨q,cJ g.1 r2,ok.X p q σ2 ⟨Ln L2,h2.p,(le.trans le2).ln,R2.drop λ_ _ _ _ _=>⟨rfl,rfl⟩,g.2⟩⟩⟩)
theorem av.cF{B:Bs}{g:Rn}(R:av (B.cF g) L h σ):av B L h σ:=⟨R.cell,R.dh,R.sep,R.gv⟩
theorem av.PK{B:Bs}{g:Rn}(R:av B L h σ):av (B.cF g) L h σ:=⟨R.cell,R.dh,R.sep,R.gv⟩
theorem eP.cF{B:Bs}{g:Rn}{F:Ro->Hs->Prop}{ρ:aK}(z:eP (B.cF g) L F ρ σ):eP B L F ρ σ:=az z λL1 ρ h z=>⟨L1,ρ,h,z.1,z.2.1.cF,z.2.2⟩
theorem Bn{x:String}:look [(x,w)] x=some w:=by
 refine (?_:b9 (x==x) (some w) none=_);rewrite [beq_self_eq_true];rfl
theorem Kx{x z:String}(n:z≠x):look [(x,w)] z=none:=by
 refine (?_:b9 (z==x) (some w) none=_);refine aa (Q3.mpr n) ?_;rfl
theorem MS.i5{s:Ss}{k x:String}(m:iP s):MS (.i5 s k x e):=λc h K L v σ g ok R=>ao g λy X g=>have g:=Gd.get g;have n:=ae g.1;have n2:=ae n.1;have n3:=ae n2.1;g.2.get.elim λw g=>have o:=g.2.get;(ok.ρ y w g.1).elim λyv r=>
 have hκ:=ok.u4 n3.2;have ne:=λq=>Q3.mp (SZ _▸n2.2:(y==x)=false) q.symm
 (Q6.mp n3.1).symm▸.i5 (κ:=[(y,yv)]) hκ (λz u q=>if e:z=y then by subst e;exact QK (lookup_cons_self.symm.trans q)▸r.1 else nomatch(fG e).symm.trans q) (fG ne) (SZ _▸n.2)
  (λgg=>(m (c.tr gg y w X) h K L ⟨v.ρ,[(y,yv)],kO c.B L X⟩ σ (o.2.1 gg) ⟨ok.ρ,λz q=>if e:z=y then ff ((QQ cS (e▸Bn:look [(y,w)] z=some w)).symm.trans q) else fG e,λp q σ z=>ao z λL1 h1 z=>⟨L1,h1,z.1,z.2.1.cF,z.2.2⟩,λq=>ff q⟩ R.PK).mono
   ⟨λ_ _ z=>z.cF,λ_ _ z=>az z λL1 w h1 z=>⟨L1,w,h1,z.1,z.2.1.cF,z.2.2⟩,λ_ _ z=>z.cF⟩)
  λp q σ' z=>ao z λL1 hp z=>((sound e).1 (c.hand x p q y w) ⟨hp,[]⟩ _ L1 ⟨[(y,yv)],[],λ_ _ _=>False⟩ σ' (o.2.2 p q hp z.2.2) ⟨λt u q=>if e:t=y then⟨yv,e▸lookup_cons_self,QK (Bn.symm.trans (e▸q:look [(y,w)] y=some u))▸(r.2.nt o.1).mono z.1⟩ else(nomatch(Kx e).symm.trans q),λ_ _=>rfl,λ_ _ _ z=>ao z λ_ _ z=>z.2.2,λ_=>rfl⟩ z.2.1).mono λu σ2 t=>az t λL2 w2 h2 t=>have o:=t.2.2.2.get;⟨Ln L2,w2,h2.p,Bq.trans (z.1.trans t.1).ln,t.2.1.drop λ_ _ _ _ _=>⟨rfl,rfl⟩,t.2.2.1.nt o.1,o.2⟩
end
mutual
theorem GI:∀s:S,MS s
 |.asg _ _=>.asg
 |.fP _ _=>.fP
 |.gp _ _ _=>.gp
 |.kD _ _ _=>.kD
 |.aug _ _=>.aug
 |.ex _=>.ex
 |.ret _=>.ret
 |.g8=>.g8
 |.ifs _ a b=>.ifs (gJ a) (gJ b)
 |.iX _ a=>.iX (gJ a)
 |.jr _ _ a=>.jr (gJ a)
 |.iC _ _ _ a=>.iC (gJ a)
 |.f6 _ _ a=>.f6 (gJ a)
 |.js _ _ _ a=>.js (gJ a)
 |.raise _ _ _=>.raise
 |.cont=>.cont
 |.i5 a _ _ _=>.i5 (gJ a)
theorem gJ:∀s:Ss,iP s
 |.nil=>λc h K L v σ g ok R=>.nil (jG .refl R ok.ρ g)
 |.cons s r=>λc h K L v σ g ok R=>.cons ((GI s c h _ L v σ g ok R).mono ⟨λρ' σ1 z=>az z λL1 ρ h1 z=>(gJ r (c.at ρ) h1 K L1 ⟨ρ',v.κ,v.X⟩ σ1 z.2.2.2 ((ok.more z.1).at z.2.2.1) z.2.1).mono (fq.more z.1),λ_ _ z=>z,λ_ _ z=>z⟩)
end
end
section
open _root_.PySem
open scoped Classical
noncomputable def eQ(B:Bs)(n:Nat)(X:QI->QI->HP->Prop):Wk:=⟨B,n,false,none,[],X⟩
noncomputable def aL(B:Bs)(n:Nat)(ρ:Ro)(X:QI->QI->HP->Prop):Wc:=⟨eQ B n X,ρ⟩
abbrev kN(Q:W->HP->Prop)(_:Ro)(h:Hs):Prop:=Q (.d .none) h.p
abbrev kF(_:Ro)(_:Hs):Prop:=False
noncomputable def bO(Q:W->HP->Prop):Kw:=⟨kN Q,Q,kF⟩
def mI(xs:List String):List W->Ro:=xs.rec (λ_=>[]) λx _ f ws=>ws.rec [] λw r _=>(x,w)::f r
section
variable{B:Bs}{n:Nat}{f i:String}{gn:Fn}{ws:List W}{p:HP}{Q:W->HP->Prop}{X:QI->QI->HP->Prop}{L:Lm}
theorem u5{xs:List String}:∀{ws:List W}{vs:List V},ai (au L) ws vs->bQ L (mI xs ws) (xs.zip vs):=by
 induction xs with
 |nil=>exact λ_ x w e=>aX e
 |cons x xs ih=>
  intro ws vs r z u e
  cases r with
  |nil=>exact aX e
  |cons r t=>
   have e:b9 (z==x) (some _) (look (mI xs _) z)=some u:=e;refine aa U2 (aa Rx ?_)
   cases q:z==x with
   |true=>rw [q] at e;exact ⟨_,rfl,QK e▸r⟩
   |false=>rw [q] at e;exact ih t z u e
theorem aq.fn(hX:B.X f=some gn)(ln:ws.length=gn.params.length)(h:aD gn.body (aL B n (mI gn.params ws) X) ⟨p,[]⟩ (bO Q)):aq B (n+1) f ws p Q X:=λL σ vs R r=>
 .fn hX ((dH r).trans ln) ((gJ gn.body (aL B n (mI gn.params ws) X) ⟨p,[]⟩ (bO Q) L ⟨gn.params.zip vs,[],kO B L X⟩ σ h ⟨u5 r,λ_ _=>rfl,λ_ _ _ z=>z,λ_=>rfl⟩ R).mono
  ⟨λρ σ z=>az z λL1 ρ h1 z=>give (w:=.d .none) z.1 z.2.1 rfl z.2.2.2,λ_ _ z=>z,λρ σ z=>az z λL1 ρ h1 z=>z.2.2.2⟩)
theorem AS{h:Hs}{w:W}{c:af}(n:w.nt=true):h.new w c=⟨(h.new w c).p,h.t⟩:=by
 cases w with
 |t _=>exact ff n
 |_=>rfl
theorem aq.cls{D:kS}(hC:B.C f=some D)(hi:f++"."++"__init__"=i)(hX:B.X i=some gn) w(nt:w.nt=true)(fr:(⟨p,[]⟩:Hs).free w)(h:aq B n i (w::ws) ((⟨p,[]⟩:Hs).new w (.obj f [])).p (λv p=>v=.d .none/\Q w p) (λ_ _ _=>False)):aq B (n+1) f ws p Q X:=λL σ vs R r=>
 .cls hC hi hX λa d fa fd ne=>
  have fw:=Hs.t8 fr;have le:=R.more fr;have kp:=λb nb=>(Map.aO λq:b=d=>nb (q▸fd)).trans (Map.aO λq:b=a=>nb (q▸fa));have R':=av.new (c:=.obj f []) R fr fa fd kp ⟨fw.2,[],(Map.aO ne).trans Map.a7,Map.a7,.nil⟩;have e:gZ L w (a,d) w=some (a,d):=QR rfl
  have rw':=by cases w with
   |d _=>exact fr.elim
   |bb=>exact fr.elim
   |_=>exact ⟨_,e,rfl⟩
  (h _ _ (.r a::vs) (AS nt▸R') (.cons rw' (r.imp λ_ _ z=>z.mono le))).mono (λv σ z=>az z λL1 u p1 z=>
   have j6:Le (gZ L w (a,d)) L1:=λx q g=>z.1 x q ((Ln.yes (av.cQ (AS nt▸R':av B _ ⟨_,[]⟩ _) g)).trans g)
   ⟨by have g:=z.2.2.1;rw [z.2.2.2.1] at g;exact g,L1,w,p1,λx q g=>z.1 x q (le.ln x q g),z.2.1,rw'.mono j6,z.2.2.2.2⟩) λa b σ z=>ao z λ_ _ z=>z.2.2
end
structure aJ(B:Bs):Prop where
 x:∀k f gn,aV l8 k=some (f,gn)->B.X f=some gn
 c:∀k f i,aV qW k=some (f,i)->∃D,B.C f=some D
theorem aJ.cF{B:Bs}(b:aJ B) g:aJ (B.cF g):=⟨b.x,b.c⟩
theorem aq.df{B:Bs}{n:Nat}{f:String}{gn:Fn}{ws:List W}{p:HP}{Q:W->HP->Prop}{X:QI->QI->HP->Prop}(b:aJ B) k(e:aV l8 k=some (f,gn))(ln:ws.length=gn.params.length)(h:aD gn.body (aL B n (mI gn.params ws) X) ⟨p,[]⟩ (bO Q)):aq B (n+1) f ws p Q X:=.fn (b.x k f gn e) ln h
structure TI where
 aQ:Int
 name:Str
 count:Nat
 struct:Int
 bB:Int
noncomputable def TI.d(t:TI):QI:=.tuple [.int t.aQ,.str t.name,.int t.count,.int t.struct,.int t.bB]
noncomputable def TI.key(t:TI):QI:=.tuple [.int t.aQ,.str t.name,.int t.count]
set_option genInjectivity true in
set_option genCtorIdx true in
inductive X where
 |p (i:Int)
 |arr (x:X)
 |var (i:Int)
 |c0 (t:Int)
 |c1 (t:Int) (a:X)
 |c2 (t:Int) (a b:X)
noncomputable def X.d:X->QI
 |.p i=>.tuple [.int 0,.int i]
 |.arr x=>.tuple [.int (-1),x.d]
 |.var i=>.tuple [.int (-2),.int i]
 |.c0 t=>.tuple [.int t]
 |.c1 t a=>.tuple [.int t,a.d]
 |.c2 t a b=>.tuple [.int t,a.d,b.d]
structure LS where
 aI:List Int
 refs:List Int
 owners:List X
 specs:List QI
 used:List (X×Int)
 members:List (Int×Str×QI)
structure Fx where
 is:List Int
 ns:List Int
 ti:Int->TI
 fk:Int->Nat
 fx:Int->X
structure Ab where
 L:LS
 ks:List X
 texts:List Str
 aH:List QI
 mq:List QI
 mn:List QI
 gf:List QI
 gi:List QI
 tabs:List Int
 tab:Int->List QI
def aT{α:Type}(l:List α)(x:α):List α:=if x∈l then l else l++[x]
def Ab.k4(A:Ab)(x:Str):Ab:={A with texts:=aT A.texts x}
def Ab.gT(A:Ab)(x:QI):Ab:={A with aH:=aT A.aH x}
noncomputable def dW(l:List QI):List W:=l.map .d
noncomputable def iW(l:List Int):List W:=l.map λi=>.d (.int i)
noncomputable def cy:Nat->List QI->List (QI×W)
 |_,[]=>[]
 |k,x::l=>(x,.d (.int k))::cy (k+1) l
noncomputable def sS(x:String):QI:=.str (QJ x)
noncomputable def memD(m:Int×Str×QI):QI:=.tuple [.int m.1,.str m.2.1,m.2.2]
noncomputable def eS(u:X×Int):QI:=.tuple [u.1.d,.int u.2]
noncomputable def dz:List Int:=[40,41,42,43,44,45,46,47,48,49,50]
noncomputable def cz(i:Int):Bool:=decide (40<=i)&&decide (i<=50)
noncomputable def kq(i:Int):Bool:=decide (1<=i)&&decide (i<=22)
noncomputable def kA:List Int:=[1,2,3,4,5,6,7,8,9,10,11,12,13,14,15,16,17,18,19,20,21,22]
theorem tF:∀{n:Nat},n<=2->n=0\/n=1\/n=2:=λ{n} h=>(ZJ.mp h).elim (λh=>(ZJ.mp h).elim (λh=>.inl (Nat.le_zero.mp h)) λh=>.inr (.inl h)) λh=>.inr (.inr h)
noncomputable def dN(i:Int):Int:=40+(i -1)/2
theorem sC{t i:Int}(h:i=2*(t -40)+1\/i=2*(t -40)+2):dN i=t:=by unfold dN;omega
noncomputable def da(i:Int):QI:=if i%2=1 then sS "f" else sS "g"
noncomputable def fU(F:Fx)(i:Int):Ro:=[("tid",.d (.int i)),("name",.d (.str (F.ti i).name)),("sort",.d (.int (if(F.ti i).struct=0 then 1 else 2))),("flags",.d (.int 0)),("base",.d (.int (-1))),("ifaces",.f 3 i),("params",.f 1 i),("variances",.f 4 i),("bounds",.f 5 i),("fields",.f 2 i),("methods",.f 6 i),
 ("asm",.d (.int (F.ti i).aQ)),("cctor",.d (.int 0)),("under",.d (.int (-1))),("impls",.f 7 i),("props",.f 8 i),("events",.f 9 i),("finaliser",.d (.int 0)),("home",.d (.int (40*(F.ti i).bB)))]
noncomputable def l9(F:Fx)(i:Int):Ro:=[("fid",.d (.int i)),("owner",.d (.int (dN i))),("name",.d (da i)),("kind",.d (.int (F.fk i))),("access",.d (.int 6)),("flags",.d (.int 0)),("value",.d .none)]
def MN(F:Fx)(k:Nat)(i:Int):Option af:=(aV [λi=>aR (cz i) (some (.obj "TypeDef" (fU F i))),λi=>aR (cz i) (some (.lst (dW ([sS "T",sS "U"].take (F.ti i).count)))),λi=>aR (cz i) (some (.lst [.d (.int (2*(i -40)+1)),.d (.int (2*(i -40)+2))])),
 λi=>aR (cz i) (some (.lst [])),λi=>aR (cz i) (some (.lst (Q4 (F.ti i).count (.d (.int 0))))),λi=>aR (cz i) (some (.lst (Q4 (F.ti i).count (.d (.tuple [.int 0,.tuple []]))))),λi=>aR (cz i) (some (.lst [])),λi=>aR (cz i) (some (.lst [])),λi=>aR (cz i) (some (.lst [])),λi=>aR (cz i) (some (.lst [])),
 λi=>aR (kq i) (some (.obj "FieldDef" (l9 F i)))] k).rec none λg=>g i
noncomputable def rR(A:Ab)(i:Int):Option af:=if i∈A.tabs then some (.lst (dW (A.tab i))) else none
def d9(F:Fx)(A:Ab)(k:Nat)(i:Int):Option af:=(Uu k 11).rec (MN F k i) (rR A i)
def j4(F:Fx)(l:List Int):List (QI×W):=l.foldl (λr t=>if(a5 r (F.ti t).key).isSome then r else r++[((F.ti t).key,.d (.int t))]) []
def iZ(F:Fx):List (QI×W):=dz.map λt=>(.int t,.d (F.ti t).d)
noncomputable def iD(l:List (Int×Int)):List (QI×W):=l.map λp=>(.int p.1,.d (.int p.2))
noncomputable def X.kids:X->List X
 |.arr x=>[x]
 |.c1 _ a=>[a]
 |.c2 _ a b=>[a,b]
 |_=>[]
def X.xt:X->Prop
 |.p i=>i=7\/i=9\/i=12\/i=13
 |_=>False
def aS(ks:List X)(x:X):Prop:=x∈ks\/x.xt
def aw(ks:List X):X->Nat
 |.p i=>i.toNat
 |x=>16+ks.idxOf x
noncomputable def dR(ks:List Nat):List QI:=ks.map λk=>.int (k:Nat)
noncomputable def tg(F:Fx)(t:Int):Int:=if(F.ti t).struct=0 then 2 else 3
def named(F:Fx)(ks:List X)(t:Int)(l:List X):QI:=.tuple [.int (tg F t),.int t,.tuple (dR (l.map (aw ks)))]
def bc(F:Fx)(ks:List X):X->QI
 |.p i=>.tuple [.int 1,.int i]
 |.arr x=>.tuple [.int 4,.int (aw ks x)]
 |.var i=>.tuple [.int 6,.int i]
 |.c0 t=>named F ks t []
 |.c1 t a=>named F ks t [a]
 |.c2 t a b=>named F ks t [a,b]
noncomputable def deeper(d e:Int):Int:=if d<e+1 then e+1 else d
noncomputable def X.dep:X->Int
 |.arr x=>deeper 1 x.dep
 |.c1 _ a=>deeper 1 a.dep
 |.c2 _ a b=>deeper (deeper 1 a.dep) b.dep
 |_=>1
noncomputable def X.cb:X->Int
 |.arr x=>1+x.cb
 |.c1 _ a=>1+a.cb
 |.c2 _ a b=>1+a.cb+b.cb
 |_=>1
noncomputable def X.eJ:X->Int
 |.arr x=>if x.eJ=1 then 1 else 0
 |.var _=>1
 |.c1 _ a=>if a.eJ=1 then 1 else 0
 |.c2 _ a b=>if b.eJ=1 then 1 else if a.eJ=1 then 1 else 0
 |_=>0
noncomputable def vW:List QI:=(RP 16).map λi:Nat=>.tuple [.int 1,.int i]
def dP(F:Fx)(ks:List X):List QI:=vW++ks.map (bc F ks)
noncomputable def tL(ks:List X):List Int:=Q4 16 1++ks.map X.dep
def tI(ks:List X):List Int:=Q4 16 1++ks.map X.cb
noncomputable def tK(ks:List X):List Int:=Q4 16 0++ks.map X.eJ
noncomputable def gc(F:Fx):List af:=[
 .aj 1 (iD [(0,20),(1,9),(2,10),(3,11),(4,12),(5,13),(6,14),(7,15),(8,16),(9,17),(10,18),(11,19),(12,1),(13,4)]),
 .aj 1 (iD [(20,0),(9,1),(10,2),(11,3),(12,4),(13,5),(14,6),(15,7),(16,8),(17,9),(18,10),(19,11),(1,12),(4,13)]),
 .aj 1 (iD [(0,1),(1,2),(2,3),(3,4),(4,5),(5,6),(6,7),(7,8),(8,9),(9,10),(10,11),(11,24),(12,28),(13,14)]),
 .aj 1 [(.int 0,.d (.tuple [.int 2,.tuple [.int 2,.int 1,.int 27]])),(.int 1,.d (.tuple [.int 2,.tuple [.int 4,.int 8,.int 23]])),(.int 2,.d (.tuple [.int 3,.tuple [.int 2,.int 1,.int (-1),.int 6,.int 27]])),(.int 3,.d (.tuple [.int 1,.tuple [.int 20,.int 23]])),(.int 4,.d (.tuple [.int 1,.tuple [.int 6,.int 10]])),(.int 5,.d (.tuple [.int 2,.tuple [.int 0,.int (-1),.int 35,.int 1]])),(.int 6,.d (.tuple [.int 1,.tuple [.int 2,.int 6]]))],
 .lst (iW F.is)]
def kH(F:Fx)(ks:List X)(wr:List (QI×W))(r:List (Option af))(f:Nat->Int->Option af):HP:=⟨
 some (.obj "KindTable" [("rows",.s 1),("index",.s 2),("depths",.s 3),("weights",.s 4),("opens",.s 5)])::
 some (.lst (dW (dP F ks)))::
 some (.aj 3 (cy 0 (dP F ks)))::
 some (.lst (iW (tL ks)))::
 some (.lst (iW (tI ks)))::
 some (.lst (iW (tK ks)))::
 some (.aj 2 ((sS "types",.s 7)::wr))::
 some (.aj 1 (iZ F))::r,f,gc F⟩
noncomputable def o3(bad:QI):List (QI×W):=[(sS "fields",.s 8),(sS "bad",.d bad),(sS "asms",.s 9),(sS "refs",.s 10),(sS "owners",.s 11),(sS "specs",.s 12),(sS "used",.s 13),(sS "members",.s 14)]
def rest(F:Fx)(A:Ab):List (Option af):=[
 some (.lst (.d .none::kA.map λi=>.d (.tuple [.int (dN i),da i,(F.fx i).d]))),
 some (.lst (iW A.L.aI)),
 some (.lst (iW A.L.refs)),
 some (.lst (dW (A.L.owners.map X.d))),
 some (.lst (dW A.L.specs)),
 some (.lst (dW (A.L.used.map eS))),
 some (.lst (dW (A.L.members.map memD))),
 some (.obj "Store" [("kt",.s 0),("types",.s 16),("fields_",.s 17),("methods",.s 18),("names",.s 19),("asms",.s 20),("entry",.d (.int 0))]),
 some (.lst (Q4 40 (.d .none)++Internal.dz.map λt=>.f 0 t)),
 some (.lst (.d .none::kA.map λi=>.f 10 i)),
 some (.lst [.d .none]),
 some (.aj 3 (j4 F Internal.dz)),
 some (.lst [.d (sS "core"),.d (sS "lib"),.d (sS "app"),.d (sS "ext")]),
 some (.obj "Pages" [("store",.s 15),("asm",.d (.int 2)),("ts",.s 22),("texts",.s 24),("users",.s 26),("guids",.s 28),("blobs",.s 30),("code",.s 32),("tokens",.d .none),("tids",.s 33),("type_rows",.s 34),("field_rows",.s 35),("method_rows",.s 36),("asm_refs",.s 37),("type_refs",.s 38),("specs",.s 39),("members",.s 40),("method_specs",.s 41),("locals_sigs",.s 42),("rvas",.s 43)]),
 some (.obj "PlainTables" [("rows",.s 23)]),
 some (.aj 1 (A.tabs.map λt=>(.int t,.f 11 t))),
 some (.obj "PlainHeap" [("rows",.s 25)]),
 some (.lst (A.texts.map λx=>.d (.str x))),
 some (.obj "PlainHeap" [("rows",.s 27)]),
 some (.lst [.d (sS "")]),
 some (.obj "PlainHeap" [("rows",.s 29)]),
 some (.lst [.bb]),
 some (.obj "PlainHeap" [("rows",.s 31)]),
 some (.lst (.bb::dW A.aH)),
 some .cH,
 some (.lst [.d (.int 48),.d (.int 49),.d (.int 50)]),
 some (.aj 1 [(.int 48,.d (.int 2)),(.int 49,.d (.int 3)),(.int 50,.d (.int 4))]),
 some (.aj 1 [(.int 17,.d (.int 1)),(.int 18,.d (.int 2)),(.int 19,.d (.int 3)),(.int 20,.d (.int 4)),(.int 21,.d (.int 5)),(.int 22,.d (.int 6))]),
 some (.aj 1 []),
 some (.aj 1 (cy 1 A.mq)),
 some (.aj 1 (cy 1 A.mn)),
 some (.aj 1 (cy 1 A.gf)),
 some (.aj 3 (cy 1 A.gi)),
 some (.aj 1 []),some (.aj 1 []),some (.aj 1 []),
 some (.lst (iW F.ns)),some (.lst [.d .none])]
def hc(F:Fx)(A:Ab)(bad:QI):HP:=kH F A.ks (o3 bad) (rest F A) (d9 F A)
section
variable{P Q:Prop}
theorem Br.lt{i j:Int}(h:i<j)(q:P):Br (decide (i<j)) P Q:=.yes (Rc h) q
theorem Br.h9{i j:Int}(h:¬i<j)(q:Q):Br (decide (i<j)) P Q:=.no (Rm h) q
theorem Br.le{i j:Int}(h:i<=j)(q:P):Br (decide (i<=j)) P Q:=.yes (Rc h) q
theorem Br.ib{i j:Int}(h:¬i<=j)(q:Q):Br (decide (i<=j)) P Q:=.no (Rm h) q
theorem Br.ey{i j:Int}(h:i=j)(q:P):Br (i==j) P Q:=.yes (Q6.mpr h) q
theorem Br.en{i j:Int}(h:i≠j)(q:Q):Br (i==j) P Q:=.no (Q3.mpr h) q
theorem Br.ny{i j:Int}(h:i≠j)(q:P):Br (!(i==j)) P Q:=.yes (by refine aa (Q3.mpr h) ?_;rfl) q
theorem Br.nn{i j:Int}(h:i=j)(q:Q):Br (!(i==j)) P Q:=.no (by refine aa (Q6.mpr h) ?_;rfl) q
end
theorem qY{α β γ:Sort _}{a a':α}{b b':β}(f:α->β->γ)(e:a=a')(e':b=b'):f a b=f a' b':=e▸e'▸rfl
section
variable{α β:Type}{l:List α}{x y:α}{f:α->β}
theorem qv(h:x∈l):l[l.idxOf x]?=some x:=by
 induction l with
 |nil=>exact nomatch h
 |cons a t ih=>
  refine aa Uq ?_;by_cases e:a=x
  ·refine aa (Q6.mpr e) (aa e ?_);rfl
  ·refine aa (Q3.mpr e) ?_;exact ih ((QZ.mp h).resolve_left (UG e))
theorem Lr(h:x∈l)(h':y∈l)(e:l.idxOf x=l.idxOf y):x=y:=QK ((qv h).symm.trans (e▸qv h'))
theorem lU(h:∀y∈l,f y=f x->y=x):(l.map f).idxOf (f x)=l.idxOf x:=by
 induction l with
 |nil=>rfl
 |cons a t ih=>
  refine aa Ut (aa Uq (aa Uq ?_));by_cases e:a=x
  ·refine aa (Q6.mpr e) (aa (Q6.mpr (QQ f e)) ?_);rfl
  ·exact aa (Q3.mpr e) (aa (Q3.mpr λq=>e (h a (.head _) q)) (aa (ih λy m=>h y (.tail _ m)) rfl))
theorem mem_map(h:∀y∈l,f y=f x->y=x):f x∈l.map f↔x∈l:=⟨λm=>(Su.mp m).elim λy z=>h y z.1 z.2▸z.1,SM⟩
theorem xq{l':List α}(h:x∈l):(l++l').idxOf x=l.idxOf x:=by exact aa YY (aa (QR h) rfl)
theorem xp{l':List α}(h:x∉l):(l++l').idxOf x=l.length+l'.idxOf x:=by(refine aa YY (aa (QP h) ?_);rewrite [RO];rfl)
theorem jk(h:x∉l):(l++[x]).idxOf x=l.length:=by refine aa (xp h) (aa XH ?_);rfl
theorem j5{k:Nat}(h:l[k]?=some x):k<l.length:=(Sl.mp h).1
end
theorem jy{α:Type}{l:List α}{x:α}:x∈aT l x:=by unfold aT;by_cases h:x∈l<;>simp [h]
theorem yJ{α:Type}{l:List α}{x:α}:∃t,aT l x=l++t:=by unfold aT;by_cases h:x∈l<;>simp [h]
theorem oO{α:Type}{l:List α}{x:α}:(aT l x).idxOf x=l.idxOf x:=by
 unfold aT;by_cases h:x∈l
 ·exact aa (QR h) rfl
 ·exact aa (QP h) (aa (jk h) (aa (VM h) rfl))
theorem AK{k:Nat}{x y:QI}{l:List QI}:a5 (cy k (x::l)) y=if x=y then some (.d (.int k)) else a5 (cy (k+1) l) y:=dE
theorem lJ{l:List QI}{x:QI}:∀{k:Nat},x∈l->a5 (cy k l) x=some (.d (.int (k+l.idxOf x:Nat))):=by
 induction l with
 |nil=>exact λh=>nomatch h
 |cons a t ih=>
  intro k h;refine aa AK (aa Uq ?_);by_cases e:a=x
  ·refine aa (QR e) (aa (Q6.mpr e) ?_);rfl
  ·(refine aa (QP e) (aa (Q3.mpr e) (aa (ih ((QZ.mp h).resolve_left (UG e))) ?_));rewrite [SO,RO 1]);rfl
theorem ng{l:List QI}{x:QI}:∀{k:Nat},x∉l->a5 (cy k l) x=none:=by
 induction l with
 |nil=>exact λ_=>rfl
 |cons a t ih=>
  intro k h;refine aa AK (aa (QP λe:a=x=>h (e▸.head _)) ?_)
  exact ih λm=>h (.tail _ m)
theorem we{l:List QI}{x:QI}:∀{k:Nat},x∉l->bX (cy k l) x (.d (.int (k+l.length:Nat)))=cy k (l++[x]):=by
 induction l with
 |nil=>exact λ_=>rfl
 |cons a t ih=>
  intro k h
  (refine aa pM (aa (QP λe:a=x=>h (e▸.head _)) (aa UH ?_));rewrite [RO t.length,←SO];refine aa (ih λm=>h (.tail _ m)) ?_)
  rfl
theorem nh{l:List QI}:∀{k:Nat},(cy k l).length=l.length:=by
 induction l with
 |nil=>exact rfl
 |cons a t ih=>exact QQ TX ih
structure a6(ks:List X):Prop where
 nd:ks.Nodup
 np:∀i,.p i∉ks
 kd:∀x∈ks,∀y∈x.kids,aS ks y
def X.np:X->Prop
 |.p _=>False
 |_=>True
section
variable{F:Fx}{ks ks':List X}{x y:X}
theorem aS.more{t:List X}(h:aS ks x):aS (ks++t) x:=h.imp_left λm=>VN _ m
theorem gQ(n:x.np):aw ks x=16+ks.idxOf x:=by cases x with
 |p i=>exact n.elim
 |_=>rfl
theorem qr(h:x.xt):∃i:Nat,x=.p i/\aw ks x=i/\i<16/\i≠0/\i≠14:=by cases x with
 |p i=>
  rcases h with rfl|rfl|rfl|rfl
  ·exact ⟨7,rfl,rfl,by decide,by decide,by decide⟩
  ·exact ⟨9,rfl,rfl,by decide,by decide,by decide⟩
  ·exact ⟨12,rfl,rfl,by decide,by decide,by decide⟩
  ·exact ⟨13,rfl,rfl,by decide,by decide,by decide⟩
 |_=>exact h.elim
theorem jm(K:a6 ks)(h:aS ks x):(x.xt)\/(x.np/\x∈ks):=h.elim (λm=>by cases x with
 |p i=>exact absurd m (K.np i)
 |_=>exact .inr ⟨trivial,m⟩) .inl
theorem ka{t:List X}(K:a6 ks)(h:aS ks x):aw (ks++t) x=aw ks x:=(jm K h).elim (λq=>by cases x with
 |p i=>rfl
 |_=>exact q.elim) λq=>by exact aa (gQ q.1) (aa (gQ q.1) (aa (xq q.2) rfl))
theorem xk(K:a6 ks)(h:aS ks x)(h':aS ks y)(e:aw ks x=aw ks y):x=y:=
 (jm K h).elim (λq=>(jm K h').elim (λq'=>(qr q).elim λi z=>(qr q').elim λj z'=>z.1.trans ((QQ (λn:Nat=>X.p n) (z.2.1.symm.trans (e.trans z'.2.1))).trans z'.1.symm))
   λq'=>(qr q).elim λi z=>absurd (z.2.1.symm.trans (e.trans (gQ q'.1))) (SP (SH z.2.2.1 (Ra 16 _))))
  λq=>(jm K h').elim (λq'=>(qr q').elim λi z=>absurd (z.2.1.symm.trans (e.symm.trans (gQ q.1))) (SP (SH z.2.2.1 (Ra 16 _))))
   λq'=>Lr q.2 q'.2 (X7 ((gQ q.1).symm.trans (e.trans (gQ q'.1))))
theorem rJ{a b:List QI}(e:RC a=.tuple b):a=b:=by injection e
theorem qB{a b:Nat}(e:RM a=.int b):a=b:=T6 (cj _ _ e)
theorem jV F t:tg F t=2\/tg F t=3:=by unfold tg;by_cases h:(F.ti t).struct=0<;>simp [h]
theorem cE{a b:QI}{l m:List QI}(e:RC (a::l)=.tuple (b::m)):a=b/\l=m:=RB (rJ e)
theorem mS{t k:Int}{l m:List QI}(h:k≠2)(h':k≠3)(e:RC (.int (tg F t)::l)=.tuple (.int k::m)):False:=(jV F t).elim (λq=>h ((cj _ _ (cE e).1).symm.trans q)) λq=>h' ((cj _ _ (cE e).1).symm.trans q)
theorem Hi(K:a6 ks)(nx:x.np)(ny:y.np)(hx:∀z∈x.kids,aS ks z)(hy:∀z∈y.kids,aS ks z)(e:bc F ks x=bc F ks y):x=y:=by
 have one:∀{a b:X},aS ks a->aS ks b->RM (aw ks a)=.int (aw ks b)->a=b:=λh h' e=>xk K h h' (qB e);have nam:∀{t u:Int}{l m:List X},named F ks t l=named F ks u m->t=u/\dR (l.map (aw ks))=dR (m.map (aw ks)):=λe=>have p:=RB (cE e).2;⟨cj _ _ p.1,rJ (RB p.2).1⟩;have hd:∀{z:X},z∈[z]:=.head _
 cases x with
 |p _=>exact nx.elim
 |arr a=>cases y with
  |p _=>exact ny.elim
  |arr c=>exact QQ X.arr (one (hx a (.head _)) (hy c (.head _)) (RB (cE e).2).1)
  |var _=>exact absurd (cj _ _ (cE e).1) (by decide)
  |_=>exact (mS (by decide) (by decide) e.symm).elim
 |var i=>cases y with
  |p _=>exact ny.elim
  |arr c=>exact absurd (cj _ _ (cE e).1) (by decide)
  |var j=>exact QQ X.var (cj _ _ (RB (cE e).2).1)
  |_=>exact (mS (by decide) (by decide) e.symm).elim
 |c0 t=>cases y with
  |p _=>exact ny.elim
  |c0 u=>exact QQ X.c0 (nam e).1
  |c1 u c=>exact nomatch(nam e).2
  |c2 u c d=>exact nomatch(nam e).2
  |_=>exact (mS (by decide) (by decide) e).elim
 |c1 t a=>cases y with
  |p _=>exact ny.elim
  |c0 u=>exact nomatch(nam e).2
  |c1 u c=>exact (nam e).1▸QQ (X.c1 t) (one (hx a (.head _)) (hy c (.head _)) (RB (nam e).2).1)
  |c2 u c d=>exact nomatch(RB (nam e).2).2
  |_=>exact (mS (by decide) (by decide) e).elim
 |c2 t a b=>cases y with
  |p _=>exact ny.elim
  |c0 u=>exact nomatch(nam e).2
  |c1 u c=>exact nomatch(RB (nam e).2).2
  |c2 u c d=>exact (nam e).1▸qY (X.c2 t) (one (hx a (.head _)) (hy c (.head _)) (RB (nam e).2).1) (one (hx b (.tail _ (.head _))) (hy d (.tail _ (.head _))) (RB (RB (nam e).2).2).1)
  |_=>exact (mS (by decide) (by decide) e).elim
theorem zU(n:x.np):bc F ks x∉vW:=λm=>by
 refine (Su.mp m).elim λi z=>?_;have e:=z.2.symm
 cases x with
 |p _=>exact n.elim
 |arr c=>exact absurd (cj _ _ (cE e).1) (by decide)
 |var j=>exact absurd (cj _ _ (cE e).1) (by decide)
 |_=>exact mS (by decide) (by decide) e
theorem r8(K:a6 ks)(n:x.np)(hx:∀z∈x.kids,aS ks z):(bc F ks x∈dP F ks↔x∈ks)/\(dP F ks).idxOf (bc F ks x)=aw ks x:=by
 have inj:∀y∈ks,bc F ks y=bc F ks x->y=x:=λy m e=>Hi K (by cases y with
  |p i=>exact absurd m (K.np i)
  |_=>trivial) n (K.kd y m) hx e
 refine ⟨⟨λm=>(mem_map inj).mp ((RL.mp m).resolve_left (zU n)),λm=>RN _ ((mem_map inj).mpr m)⟩,?_⟩;refine aa (xp (zU n)) (aa (lU inj) (aa (gQ n) ?_));rfl
theorem xi(K:a6 ks)(h:aS ks x):(dP F ks)[aw ks x]?=some (bc F ks x)/\(tL ks)[aw ks x]?=some x.dep/\(tI ks)[aw ks x]?=some x.cb/\(tK ks)[aw ks x]?=some x.eJ:=
 (jm K h).elim (λq=>by cases x with
  |p i=>rcases q with rfl|rfl|rfl|rfl<;>exact ⟨rfl,rfl,rfl,rfl⟩
  |_=>exact q.elim) λq=>by
  have g:∀{α:Type} f(l:List α),l.length=16->(l++ks.map f)[aw ks x]?=some (f x):=λf l hl=>by
   (refine aa (gQ q.1) (aa (TM (by lia)) (aa hl ?_));rewrite [Sx];refine aa (RJ) (aa (qv q.2) ?_));rfl
  exact ⟨g _ _ rfl,g _ _ rfl,g _ _ rfl,g _ _ rfl⟩
theorem zV{t:List X}(K:a6 ks)(h:∀z∈x.kids,aS ks z):bc F (ks++t) x=bc F ks x:=by
 cases x with
 |arr a=>exact QQ (λk:Nat=>RC [.int 4,.int k]) (ka K (h a (.head _)))
 |c1 u a=>exact QQ (λk:Nat=>RC [.int (tg F u),.int u,.tuple [.int k]]) (ka K (h a (.head _)))
 |c2 u a b=>exact qY (λk m:Nat=>RC [.int (tg F u),.int u,.tuple [.int k,.int m]]) (ka K (h a (.head _))) (ka K (h b (.tail _ (.head _))))
 |_=>rfl
theorem Lg(K:a6 ks)(h:∀z∈x.kids,aS ks z):dP F (ks++[x])=dP F ks++[bc F ks x]:=by
 unfold dP
 (refine aa Rq ?_;rewrite [Sh];refine aa (RX λy m=>zV K (K.kd y m)) ?_)
 exact QQ (λr=>vW++(ks.map (bc F ks)++[r])) (zV K h)
theorem a6.add(K:a6 ks)(n:x.np)(h:∀z∈x.kids,aS ks z)(m:x∉ks):a6 (ks++[x]):=
 ⟨S7.mpr ⟨K.nd,RV _ _,λa ha b hb e=>m ((QW.mp hb)▸e▸ha)⟩,λi q=>(RL.mp q).elim (K.np i) λq=>by rw [←QW.mp q] at n;exact n,
  λy q z hz=>(RL.mp q).elim (λq=>(K.kd y q z hz).more) λq=>(h z (QW.mp q▸hz)).more⟩
end
theorem jf:jA "KindTable" "row" "KindTable.row":=⟨by rfl,by decide+kernel⟩
theorem s9:jA "KindTable" "put" "KindTable.put":=⟨by rfl,by decide+kernel⟩
theorem ta:jA "PlainHeap" "put" "PlainHeap.put":=⟨by rfl,by decide+kernel⟩
theorem qg:jA "PlainHeap" "get" "PlainHeap.get":=⟨by rfl,by decide+kernel⟩
theorem tc:jA "PlainTables" "add" "PlainTables.add":=⟨by rfl,by decide+kernel⟩
theorem JM:jA "PlainTables" "count" "PlainTables.count":=⟨by rfl,by decide+kernel⟩
theorem AX:jA "Pages" "sig" "Pages.sig":=⟨by rfl,by decide+kernel⟩
theorem Bt{l:Nat}(h:l<ah):aR (Si l ah) (some l)=some l:=by refine aa (Tg.mpr h) ?_;rfl
theorem cp{l:List QI}:(dW l).length=l.length:=QX _
theorem Dv{l:List QI}{k:Nat}{r:QI}(h:l[k]?=some r):(dW l)[k]?=some (.d r):=by unfold dW;refine aa (RJ) (aa h ?_);rfl
theorem ku{l:List Int}{k:Nat}{r:Int}(h:l[k]?=some r):(iW l)[k]?=some (.d (.int r)):=by unfold iW;refine aa (RJ) (aa h ?_);rfl
theorem rQ{Q:W->HP->Prop}{t:Bool}{p:HP}(e:t=true)(q:Q (.d (.bool true)) p):Q (.d (.bool t)) p:=e▸q
theorem Wo.at{α:Type}{l:List α}{j:Int}{x:α}{Q:α->Prop}(h:bZ l j=some x)(q:Q x):Wo (bZ l j) Q:=.of h q
theorem Wo.len{k:Nat}{Q:Nat->Prop}(h:k<ah)(q:Q k):Wo (aR (Si k ah) (some k)) Q:=.of (Bt h) q
theorem Wo.cI{l:List (QI×W)}{d:QI}{x:W}{Q:W->Prop}(h:a5 l d=some x)(q:Q x):Wo (a5 l d) Q:=.of h q
theorem Gd.ok{d:QI}{Q:Prop}(h:aP d=true)(q:Q):Gd (aP d) Q:=.of h q
theorem Gd.lim{k:Nat}{Q:Prop}(h:k<ah)(q:Q):Gd (Si k ah) Q:=.of (Tg.mpr h) q
theorem Gd.key{t:Nat}{d:QI}{Q:Prop}(h:kd d=t)(n:t≠0)(q:Q):Gd (lT t (kd d)) Q:=.of (by refine aa h ?_;unfold lT;(refine aa (bne_iff_ne.mpr n) ?_;rewrite [beq_self_eq_true,Bool.or_true]);rfl) q
theorem DS{a b:Nat}(h:a≠b):a≠(b:Int):=λe=>h (T6 e)
theorem wC{a b:Nat}(h:a<b):¬b<=(a:Int):=Wd.mpr (R5.mpr h)
section
variable{α:Type}{P:Hs->Prop}{T:W->Ro->(Ro->Prop)->Prop}{body:Ro->Hs->Kw->Prop}{K:Kw}{f:α->W}{m:List α->List W}
theorem zd(m0:m []=[])(m1:∀x l,m (x::l)=f x::m l)(J:List α->Ro->Hs->Prop)(fin:∀ρ h,J [] ρ h->P h/\Sb ρ (qN K h))
  (step:∀x l ρ h,(∀ρ h,J l ρ h->bI P T body K (m l) ρ h)->J (x::l) ρ h->P h/\Sb ρ (tN T (f x) body (bI P T body K (m l)) K h)):∀l ρ h,J l ρ h->bI P T body K (m l) ρ h
 |[],ρ,h,j=>m0▸fin ρ h j
 |x::l,ρ,h,j=>(m1 x l).symm▸step x l ρ h (zd m0 m1 J fin step l) j
theorem mM{h:Hs}(m0:m []=[])(m1:∀x l,m (x::l)=f x::m l)(J:List α->Ro->Prop)(fin:∀ρ,J [] ρ->P h/\Sb ρ (qN K h))
  (step:∀x l ρ,(∀ρ,J l ρ->bI P T body K (m l) ρ h)->J (x::l) ρ->P h/\Sb ρ (tN T (f x) body (bI P T body K (m l)) K h)):∀l ρ,J l ρ->bI P T body K (m l) ρ h
 |[],ρ,j=>m0▸fin ρ j
 |x::l,ρ,j=>(m1 x l).symm▸step x l ρ (mM m0 m1 J fin step l) j
end
section
variable{B:Bs}{F:Fx}{ks:List X}{wr:List (QI×W)}{r:List (Option af)}{f:Nat->Int->Option af}{n:Nat}{Q:W->HP->Prop}{Z:QI->QI->HP->Prop}{p:HP}{x:X}(hB:aJ B)
theorem lQ:(dW (dP F ks)).length=ks.length+16:=by
 refine aa cp ?_;unfold dP;rewrite [Q2,QX,RO];rfl
theorem xj(F:Fx)(K:a6 ks)(h:aS ks x):aw ks x<ks.length+16:=(@lQ F ks)▸cp▸j5 (xi K h).1
def Std(F:Fx)(ks:List X)(x:X):Prop:=aS ks x/\∃s l,bc F ks x=.tuple (.int s::l)/\(s<=4\/s=6)
theorem GB(K:a6 ks)(h:aS ks x):Std F ks x:=⟨h,by cases x with
 |p i=>exact ⟨1,_,rfl,.inl (by decide)⟩
 |arr a=>exact ⟨4,_,rfl,.inl (by decide)⟩
 |var i=>exact ⟨6,_,rfl,.inr rfl⟩
 |_=>exact ⟨tg F _,_,rfl,.inl ((jV F _).elim (λq=>q▸by decide) λq=>q▸by decide)⟩⟩
theorem BP(K:a6 ks)(h:aS ks x):aw ks x≠0/\aw ks x≠14:=(jm K h).elim (λq=>(qr q).elim λi z=>z.2.1.symm▸z.2.2.2) λq=>gQ q.1▸⟨by lia,by lia⟩
include hB
theorem j9(hl:ks.length+16<ah)(K:a6 ks)(h:aS ks x)(q:Q (.d (bc F ks x)) (kH F ks wr r f)):aq B (n+1) "KindTable.row" [.s 0,.d (.int (aw ks x))] (kH F ks wr r f) Q Z:=.df hB 1 rfl rfl (Wo.len (lQ.symm▸hl) (Br.ib (wC (lQ.symm▸xj F K h)) (Wo.at (at_of (Rt (xj F K h) hl) (Dv (xi K h).1)) q)))
theorem B9{a:QI}(ok:aP (.tuple [a])=true)(q:Q (.d (.tuple [a])) p):aq B (n+1) "inner_kinds" [.d (.tuple [.int 4,a])] p Q Z:=.df hB 3 rfl rfl (Gd.of ok q)
theorem B8{a:QI}(q:Q (.d (.tuple [])) p):aq B (n+1) "inner_kinds" [.d (.tuple [.int 6,a])] p Q Z:=.df hB 3 rfl rfl q
theorem xx{s:Int}(hs:s=2\/s=3){t a:QI}(q:Q (.d a) p):aq B (n+1) "inner_kinds" [.d (.tuple [.int s,t,a])] p Q Z:=.df hB 3 rfl rfl (by rcases hs with rfl|rfl<;>exact q)
theorem vF{s:Int}(hs:s=2\/s=3\/s=4)(q:Q (.d (.int 1)) p):aq B (n+1) "row_level" [.d (.int s)] p Q Z:=.df hB 4 rfl rfl (by rcases hs with rfl|rfl|rfl<;>exact q)
theorem Hh(q:Q (.d (.int 0)) p):aq B (n+1) "row_level" [.d (.int 6)] p Q Z:=.df hB 4 rfl rfl q
theorem zR{s:Int}(hs:s=2\/s=3)(q:Q (.d (.int 3)) p):aq B (n+1) "row_length" [.d (.int s)] p Q Z:=.df hB 5 rfl rfl (by rcases hs with rfl|rfl<;>exact q)
theorem zS{s:Int}(hs:s=4\/s=6)(q:Q (.d (.int 2)) p):aq B (n+1) "row_length" [.d (.int s)] p Q Z:=.df hB 5 rfl rfl (by rcases hs with rfl|rfl<;>exact q)
theorem A5(hl:ks.length+16<ah)(K:a6 ks)(h:aS ks x)(q:Q (.d (.bool true)) (kH F ks wr r f)):aq B (n+2) "may_stand" [.s 0,.d (.int (aw ks x))] (kH F ks wr r f) Q Z:=by
 obtain ⟨_,s,l,e,hs⟩:=GB K h;refine .df hB 9 rfl rfl (Br.en (DS (BP K h).1) (Br.en (DS (BP K h).2) ⟨_,jf,Gd.of rfl (j9 hB hl K h (e▸?_))⟩));by_cases h4:s<=4
 ·exact Br.le h4 (rQ (Rc h4) q)
 ·exact Br.ib h4 (Br.ey (hs.resolve_left h4) (rQ (Q6.mpr (hs.resolve_left h4)) q))
theorem NY(hl:ks.length+16<ah)(K:a6 ks){xs:List X}(h:∀x∈xs,aS ks x)(q:Q (.d .none) (kH F ks wr r f)):aq B (n+3) "check_args" [.s 0,.d (.tuple (dR (xs.map (aw ks))))] (kH F ks wr r f) Q Z:=by
 refine .df hB 8 rfl rfl ?_;refine mM (m:=λxs:List X=>dW (dR (xs.map (aw ks)))) rfl (λ_ _=>rfl) (λxs ρ=>look ρ "kt"=some (.s 0)/\∀x∈xs,aS ks x) ?_ ?_ xs _ ⟨rfl,h⟩
 ·exact λρ j=>⟨rfl,[],trivial,q⟩
 ·exact λx l ρ ih j=>⟨rfl,[("kt",.s 0)],⟨j.1,trivial⟩,Gd.of rfl (A5 hB hl K (j.2 x (.head _)) (ih _ ⟨rfl,λy m=>j.2 y (.tail _ m)⟩))⟩
end
section
variable{B:Bs}{F:Fx}{ks:List X}{wr:List (QI×W)}{r:List (Option af)}{f:Nat->Int->Option af}{n:Nat}{Q:W->HP->Prop}{Z:QI->QI->HP->Prop}{p:HP}{x:X}(hB:aJ B)
noncomputable def kG(F:Fx)(wr:List (QI×W))(r:List (Option af))(f:Nat->Int->Option af)(R:List W)(I:List (QI×W))(D We O:List W):HP:=⟨
 some (.obj "KindTable" [("rows",.s 1),("index",.s 2),("depths",.s 3),("weights",.s 4),("opens",.s 5)])::some (.lst R)::some (.aj 3 I)::some (.lst D)::some (.lst We)::some (.lst O)::some (.aj 2 ((sS "types",.s 7)::wr))::some (.aj 1 (iZ F))::r,f,gc F⟩
theorem gb{l:List QI}{d:QI}:dW l++[.d d]=dW (l++[d]):=(Rq (l₂:=[d])).symm
theorem nZ{l:List Int}{d:Int}:iW l++[.d (.int d)]=iW (l++[d]):=(Rq (l₂:=[d])).symm
theorem dU{l:List Int}:(iW l).length=l.length:=QX _
theorem Lc(K:a6 ks)(n:x.np)(h:∀z∈x.kids,aS ks z)(m:x∉ks)(q:Q (.d (.int (aw (ks++[x]) x:Nat))) (kH F (ks++[x]) wr r f)):
  Q (.d (.int ((dW (dP F ks)).length:Nat))) (kG F wr r f (dW (dP F ks)++[.d (bc F ks x)]) (bX (cy 0 (dP F ks)) (bc F ks x) (.d (.int ((dW (dP F ks)).length:Nat)))) (iW (tL ks)++[.d (.int x.dep)]) (iW (tI ks)++[.d (.int x.cb)]) (iW (tK ks)++[.d (.int x.eJ)])):=by
 have l0:(dW (dP F ks)).length=0+(dP F ks).length:=cp.trans (Sv _).symm;have e:∀(g:X->Int)(l:List Int),(l++ks.map g)++[g x]=l++(ks++[x]).map g:=λg l=>(Sh ..).trans (QQ (l++·) (Rq (l₂:=[x])).symm);have kx:aw (ks++[x]) x=(dW (dP F ks)).length:=by(refine aa (gQ n) (aa (jk m) (aa lQ ?_));rewrite [RO];rfl)
 refine aa gb (aa nZ (aa nZ (aa nZ (a9 kx (aa kx (aa l0 (aa (we λq=>m ((r8 K n h).1.mp q)) (a9 (Lg K h) (a9 l0 (a9 kx ?_))))))))));unfold tL tI tK;rewrite [e,e,e];exact q
noncomputable def Ss.dr(n:Nat)(s:Ss):Ss:=n.rec (λs=>s) (λ_ f s=>s.casesOn .nil λ_ r=>f r) s
noncomputable def pw(t:Int×Int×Int)(x:X):Int×Int×Int:=(deeper t.1 x.dep,t.2.1+x.cb,if x.eJ=1 then 1 else t.2.2)
noncomputable def Em(row:QI)(lv d w o:Int):Ro:=[("self",.s 0),("row",.d row),("depth",.d (.int d)),("weight",.d (.int w)),("opened",.d (.int o)),("level",.d (.int lv))]
structure P0(ks:List X)(x:X)(row:QI)(lv:Int)(l:List X)(ρ:Ro):Prop where
 lo:l=[]\/lv=1
 hs:∀z∈l,aS ks z
 it:∃d w o,bz (Em row lv d w o) ρ/\l.foldl pw (d,w,o)=(x.dep,x.cb,x.eJ)
include hB
theorem LA(nx:x.np)(ok:aP (bc F ks x)=true)(q:Q (.d (.tuple (dR (x.kids.map (aw ks))))) p):aq B (n+1) "inner_kinds" [.d (bc F ks x)] p Q Z:=by
 cases x with
 |p _=>exact nx.elim
 |arr a=>exact B9 hB rfl q
 |var i=>exact B8 hB q
 |_=>exact xx hB (jV F _) q
theorem Io(K:a6 ks)(nx:x.np)(h:∀z∈x.kids,aS ks z)(hk:kd (bc F ks x)=3)(m:x∈ks)(q:Q (.d (.int (aw ks x:Nat))) (kH F ks wr r f)):aq B (n+1) "KindTable.put" [.s 0,.d (bc F ks x)] (kH F ks wr r f) Q Z:=by
 refine .df hB 2 rfl rfl ?_;refine Gd.of (by refine aa hk ?_;rfl) ?_;refine Wo.of (x:=.d (.int (aw ks x:Nat))) (by(refine aa (lJ ((r8 K nx h).1.mpr m)) (aa ((r8 K nx h).2) ?_);rewrite [Sv];rfl)) ?_;exact q
theorem vQ(hl:ks.length+17<ah)(K:a6 ks)(nx:x.np)(h:∀z∈x.kids,aS ks z)(hk:kd (bc F ks x)=3)(ok:aP (bc F ks x)=true)(m:x∉ks)(hd:x.dep<=24)(hw:x.cb<=4096){o lv:Int}(hlv:lv=1\/x.kids=[])(hf:x.kids.foldl pw (1,1,o)=(x.dep,x.cb,x.eJ))
  (q:Q (.d (.int (aw (ks++[x]) x:Nat))) (kH F (ks++[x]) wr r f)):
  aD (Ss.dr 8 ym.body) (aL B (n+5) [("self",.s 0),("row",.d (bc F ks x)),("found",.d (.int (-1))),("depth",.d (.int 1)),("weight",.d (.int 1)),("opened",.d (.int o)),("level",.d (.int lv))] Z) ⟨kH F ks wr r f,[]⟩ (bO Q):=by
 have l16:∀{α:Type}(g:X->α)(l:List α),l.length=16->(l++ks.map g).length=ks.length+16:=λg l e=>by(refine aa Q2 ?_;rewrite [QX];refine aa e ?_;rewrite [RO];rfl)
 have blt:∀{k:Nat},k=ks.length+16->Si k ah=true:=λe=>Tg.mpr (e▸Rh hl);refine Gd.of rfl (LA hB nx ok ?_);refine mM (m:=λxs:List X=>dW (dR (xs.map (aw ks)))) rfl (λ_ _=>rfl) (P0 ks x (bc F ks x) lv) ?_ ?_ x.kids _ ⟨hlv.symm,h,1,1,o,⟨rfl,rfl,rfl,rfl,rfl,rfl,trivial⟩,hf⟩
 ·refine λρ j=>⟨rfl,az j.it λd w o' z=>⟨_,z.1,?_⟩⟩
  obtain ⟨rfl,e2⟩:=Tx z.2;obtain ⟨rfl,rfl⟩:=Tx e2;refine Br.h9 (Tf.mpr hd) ?_;refine Br.h9 (Tf.mpr hw) ?_;refine Wo.len (lQ.symm▸Rh hl) ?_;refine Gd.lim (lQ.symm▸Rh hl) ?_;refine Gd.key hk (by decide) ?_;refine Gd.lim (by refine aa nh (a9 cp (aa lQ ?_));exact Rh hl) ?_;refine Gd.lim (by refine aa dU ?_;exact l16 _ (Q4 16 _) rfl▸Rh hl) ?_;refine Gd.lim (by refine aa dU ?_;exact l16 _ (Q4 16 _) rfl▸Rh hl) ?_;refine Gd.lim (by refine aa dU ?_;exact l16 _ (Q4 16 _) rfl▸Rh hl) ?_;exact Lc (F:=F) (wr:=wr) (r:=r) (f:=f) (Q:=Q) K nx h m q
 ·refine λz l ρ ih j=>⟨rfl,az j.it λd w o' y=>⟨_,y.1,?_⟩⟩
  obtain rfl:lv=1:=j.lo.resolve_left (Te _ _);have hz:=j.hs z (.head _);have kl:=Rt (xj F K hz) (Rh hl);have g:=xi (F:=F) K hz;have st:∀{d' o'':Int},d'=deeper d z.dep->o''=(if z.eJ=1 then 1 else o')->l.foldl pw (d',w+z.cb,o'')=(x.dep,x.cb,x.eJ):=λe e'=>e▸e'▸y.2;have go:∀{ρ:Ro}{d' o'':Int},bz (Em (bc F ks x) 1 d' (w+z.cb) o'') ρ->d'=deeper d z.dep->o''=(if z.eJ=1 then 1 else o')->_:=λ{ρ d' o''} s e e'=>ih ρ ⟨.inr rfl,λy m=>j.hs y (.tail _ m),d',w+z.cb,o'',s,st e e'⟩;refine Wo.at (at_of kl (ku g.2.1)) (Br.both (λe=>?_) λe=>?_)
  ·refine Wo.at (at_of kl (ku g.2.1)) ?_
   refine Wo.at (at_of kl (ku g.2.2.1)) ?_;refine Wo.at (at_of kl (ku g.2.2.2)) ?_;have e:z.dep+1=deeper d z.dep:=(QR (Q0 e)).symm;exact Br.both (λe'=>go ⟨rfl,rfl,rfl,rfl,rfl,rfl,trivial⟩ e (QR (Q6.mp e')).symm) λe'=>go ⟨rfl,rfl,rfl,rfl,rfl,rfl,trivial⟩ e (QP (Q3.mp e')).symm
  ·refine Wo.at (at_of kl (ku g.2.2.1)) ?_
   refine Wo.at (at_of kl (ku g.2.2.2)) ?_;have e:d=deeper d z.dep:=(QP (of_decide_eq_false e)).symm;exact Br.both (λe'=>go ⟨rfl,rfl,rfl,rfl,rfl,rfl,trivial⟩ e (QR (Q6.mp e')).symm) λe'=>go ⟨rfl,rfl,rfl,rfl,rfl,rfl,trivial⟩ e (QP (Q3.mp e')).symm
theorem vR(K:a6 ks)(nx:x.np)(h:∀z∈x.kids,aS ks z)(hk:kd (bc F ks x)=3)
  (hc:x∉ks->aD (Ss.dr 2 ym.body) (aL B (n+5) [("self",.s 0),("row",.d (bc F ks x)),("found",.d (.int (-1)))] Z) ⟨kH F ks wr r f,[]⟩ (bO Q)) (q:x∈ks->Q (.d (.int (aw ks x:Nat))) (kH F ks wr r f)):
  aq B (n+6) "KindTable.put" [.s 0,.d (bc F ks x)] (kH F ks wr r f) Q Z:=by
 by_cases m:x∈ks
 ·exact (Io hB K nx h hk m (q m)).le (Rj (by decide) n)
 ·refine .df hB 2 rfl rfl ?_
  refine Gd.of (by refine aa hk ?_;rfl) ?_;refine Wo.of (x:=.d (.int (-1))) (by exact aa (ng λq=>m ((r8 K nx h).1.mp q)) rfl) ?_;exact hc m
end
theorem oK{α:Type}{l:List α}{x:α}{P:List α->Prop}(m:x∈l)(h:P (aT l x)):P l:=by unfold aT at h;rw [QR m] at h;exact h
theorem oL{α:Type}{l:List α}{x:α}{P:List α->Prop}(m:x∉l)(h:P (aT l x)):P (l++[x]):=by unfold aT at h;rw [QP m] at h;exact h
theorem tW{l:List (Int×Int)}{t:Int}(h:∀p∈l,p.1≠t):a5 (iD l) (.int t)=none:=by
 induction l with
 |nil=>rfl
 |cons p l ih=>exact dE.trans ((QP λe=>h p (.head _) (cj _ _ e)).trans (ih λq m=>h q (.tail _ m)))
theorem wW{l:List (Int×Int)}{t:Int}(h:40<=t)(a:(l.all λp=>decide (p.1<40))=true):a5 (iD l) (.int t)=none:=tW λp m e=>absurd (Q0 (Rp.mp a p m)) (Tf.mpr (e▸h))
section
variable{B:Bs}{F:Fx}{ks:List X}{wr:List (QI×W)}{r:List (Option af)}{f:Nat->Int->Option af}{n:Nat}{Q:W->HP->Prop}{Z:QI->QI->HP->Prop}{p:HP}{x:X}(hB:aJ B)
theorem PT(K:a6 ks)(nx:x.np)(h:∀z∈x.kids,aS ks z):a6 (aT ks x):=by
 unfold aT;by_cases m:x∈ks
 ·refine aa (QR m) ?_;exact K
 ·refine aa (QP m) ?_;exact K.add nx h m
noncomputable def bC(ks:List X):X->List X
 |.p _=>ks
 |.arr a=>aT (bC ks a) (.arr a)
 |.var i=>aT ks (.var i)
 |.c0 t=>aT ks (.c0 t)
 |.c1 t a=>aT (bC ks a) (.c1 t a)
 |.c2 t a b=>aT (bC (bC ks a) b) (.c2 t a b)
noncomputable def Wx(F:Fx):X->Prop
 |.p i=>i=7\/i=9\/i=12\/i=13
 |.arr x=>Wx F x
 |.var i=>0<=i
 |.c0 t=>(40<=t/\t<=50)/\(F.ti t).count=0
 |.c1 t a=>(40<=t/\t<=50)/\(F.ti t).count=1/\Wx F a
 |.c2 t a b=>(40<=t/\t<=50)/\(F.ti t).count=2/\Wx F a/\Wx F b
noncomputable def X.ht:X->Nat
 |.arr x=>x.ht+1
 |.c1 _ a=>a.ht+1
 |.c2 _ a b=>max a.ht b.ht+1
 |_=>0
noncomputable def X.size:X->Nat
 |.arr x=>x.size+1
 |.c1 _ a=>a.size+1
 |.c2 _ a b=>a.size+b.size+1
 |_=>1
structure uV(ks ks') x:Prop where
 k:a6 ks'
 has:aS ks' x
 pre:∃t,ks'=ks++t
theorem uV.old{ks':List X}{x y:X}(i:uV ks ks' x)(h:aS ks y):aS ks' y:=i.pre.elim λt e=>e▸h.more
theorem ri{ks':List X}(K:a6 ks')(nx:x.np)(h:∀z∈x.kids,aS ks' z)(pre:∃t,ks'=ks++t):uV ks (aT ks' x) x:=⟨PT K nx h,.inl jy,pre.elim λt e=>(yJ).elim λu e'=>⟨t++u,by(refine aa e' (aa e ?_);rewrite [Sh];rfl)⟩⟩
theorem iu F:∀(x:X){ks:List X},a6 ks->Wx F x->uV ks (bC ks x) x
 |.p i,ks,K,w=>⟨K,.inr w,[],(SI _).symm⟩
 |.arr a,ks,K,w=>have i:=iu F a K w;ri i.k trivial (λz m=>QW.mp m▸i.has) i.pre
 |.var j,ks,K,w=>ri K trivial (λz m=>nomatch m) ⟨[],(SI _).symm⟩
 |.c0 t,ks,K,w=>ri K trivial (λz m=>nomatch m) ⟨[],(SI _).symm⟩
 |.c1 t a,ks,K,w=>have i:=iu F a K w.2.2;ri i.k trivial (λz m=>QW.mp m▸i.has) i.pre
 |.c2 t a b,ks,K,w=>have i:=iu F a K w.2.2.1;have j:=iu F b i.k w.2.2.2;ri j.k trivial (λz m=>(QZ.mp m).elim (λe=>e▸j.old i.has) λm=>QW.mp m▸j.has) (i.pre.elim λt e=>j.pre.elim λu e'=>⟨t++u,by(refine aa e' (aa e ?_);rewrite [Sh];rfl)⟩)
theorem nV:∀(x:X){ks:List X},(bC ks x).length<=ks.length+x.size:=by
 have add:∀{ks:List X}{x:X},(aT ks x).length<=ks.length+1:=λ{ks x}=>by unfold aT;by_cases m:x∈ks<;>simp [m]
 intro x
 induction x with
 |p i=>exact λ{ks}=>Ra _ _
 |arr a ih=>exact λ{ks}=>QN add (QU ih)
 |var i=>exact λ{ks}=>add
 |c0 t=>exact λ{ks}=>add
 |c1 t a ih=>exact λ{ks}=>QN add (QU ih)
 |c2 t a b ih ih'=>exact λ{ks}=>QN add (QU (QN ih' (QN (Ri ih _) (R4 (SO ..)))))
include hB
theorem uE{K':Kw}(hl:ks.length+16<ah)(K:a6 ks){xs ys:List X}{row:QI}(h:∀x∈xs,aS ks x){s:Int}(q:K'.ay [("kt",.s 0),("row",.d row),("sort",.d (.int s))] ⟨kH F ks wr r f,[]⟩){ρ:Ro}(e:bz [("kt",.s 0),("row",.d row),("sort",.d (.int s))] ρ):
  bI (lF (.d (.tuple (dR (ys.map (aw ks))))) (0,dW (dR (ys.map (aw ks))))) (gY ["inner"]) (bS (aD (.cons (.ex (.met (.lv "kt") "row" (.cons (.lv "inner") .nil))) .nil)) (eQ B (n+1) Z)) K' (dW (dR (xs.map (aw ks)))) ρ ⟨kH F ks wr r f,[]⟩:=by
 refine mM (m:=λxs:List X=>dW (dR (xs.map (aw ks)))) rfl (λ_ _=>rfl) (λxs ρ=>bz [("kt",.s 0),("row",.d row),("sort",.d (.int s))] ρ/\∀x∈xs,aS ks x) ?_ ?_ xs _ ⟨e,h⟩
 ·exact λρ j=>⟨rfl,_,j.1,q⟩
 ·exact λx l ρ ih j=>⟨rfl,_,j.1,⟨_,jf,Gd.of rfl (j9 hB hl K (j.2 x (.head _)) (ih _ ⟨⟨rfl,rfl,rfl,trivial⟩,λy m=>j.2 y (.tail _ m)⟩))⟩⟩
theorem NX{a:X}(hl:ks.length+16<ah)(K:a6 ks)(h:aS ks a)(q:Q (.d .none) (kH F ks wr r f)):aq B (n+5) "check_kind_row" [.s 0,.d (bc F ks (.arr a))] (kH F ks wr r f) Q Z:=by
 refine .df hB 6 rfl rfl ?_;refine Gd.of rfl (zS hB (.inl rfl) ?_);refine Gd.of rfl (B9 hB rfl ?_);refine uE (ys:=[a]) hB hl K (λx m=>QW.mp m▸h) ?_ ⟨rfl,rfl,rfl,trivial⟩
 ·exact Gd.of rfl (A5 hB hl K h q)
theorem NV{i:Int}(hl:ks.length+16<ah)(K:a6 ks)(h:0<=i)(q:Q (.d .none) (kH F ks wr r f)):aq B (n+5) "check_kind_row" [.s 0,.d (bc F ks (.var i))] (kH F ks wr r f) Q Z:=by
 refine .df hB 6 rfl rfl ?_;refine Gd.of rfl (zS hB (.inr rfl) ?_);refine Gd.of rfl (B8 hB ?_);refine uE (n:=n+3) (Z:=Z) (xs:=[]) (ys:=[]) hB hl K (λx m=>nomatch m) ?_ ⟨rfl,rfl,rfl,trivial⟩
 ·exact Br.h9 (Tf.mpr h) q
theorem DQ{t:Int}(ht:40<=t)(hl:ks.length+16<ah)(K:a6 ks){xs:List X}(h:∀x∈xs,aS ks x){s:Int}(q:Q (.d .none) (kH F ks wr r f)):aq B (n+4) "check_named" [.s 0,.d (.tuple [.int s,.int t,.tuple (dR (xs.map (aw ks)))])] (kH F ks wr r f) Q Z:=by
 refine .df hB 7 rfl rfl ?_;refine Br.ib (Wd.mpr (Wj (by decide) ht)) ?_;refine Br.no (by refine aa (wW ht (by decide)) ?_;rfl) ?_;exact Gd.of rfl (NY hB hl K h q)
theorem DR{t s:Int}(hs:s=2\/s=3)(ht:40<=t)(hl:ks.length+16<ah)(K:a6 ks){xs:List X}(h:∀x∈xs,aS ks x)(q:Q (.d .none) (kH F ks wr r f)):aq B (n+5) "check_kind_row" [.s 0,.d (.tuple [.int s,.int t,.tuple (dR (xs.map (aw ks)))])] (kH F ks wr r f) Q Z:=by
 refine .df hB 6 rfl rfl ?_;rcases hs with rfl|rfl
 ·refine Gd.of rfl (zR hB (.inl rfl) (Gd.of rfl (xx hB (.inl rfl) ?_)))
  refine uE hB hl K h ?_ ⟨rfl,rfl,rfl,trivial⟩
  ·exact Gd.of rfl (DQ hB ht hl K h q)
 ·refine Gd.of rfl (zR hB (.inr rfl) (Gd.of rfl (xx hB (.inr rfl) ?_)))
  refine uE hB hl K h ?_ ⟨rfl,rfl,rfl,trivial⟩
  ·exact Gd.of rfl (DQ hB ht hl K h q)
end
section
variable{B:Bs}{F:Fx}{ks:List X}{wr:List (QI×W)}{r:List (Option af)}{f:Nat->Int->Option af}{n:Nat}{Q:W->HP->Prop}{Z:QI->QI->HP->Prop}{p:HP}{x:X}(hB:aJ B)
include hB
theorem PE{a:X}(hl:ks.length+17<ah)(K:a6 ks)(h:aS ks a)(hd:(X.arr a).dep<=24)(hw:(X.arr a).cb<=4096)(q:Q (.d (.int (aw (aT ks (.arr a)) (.arr a):Nat))) (kH F (aT ks (.arr a)) wr r f)):aq B (n+7) "array_kind" [.s 0,.d (.int (aw ks a))] (kH F ks wr r f) Q Z:=by
 have hk:∀z∈(X.arr a).kids,aS ks z:=λz m=>QW.mp m▸h;refine .df hB 13 rfl rfl ⟨_,s9,Gd.of rfl (vR (x:=.arr a) hB K trivial hk rfl (λm=>?_) λm=>oK (P:=λl=>Q (.d (.int (aw l (.arr a):Nat))) (kH F l wr r f)) m q)⟩;refine Gd.of rfl (NX hB (Rh hl) K h (Gd.of rfl (vF hB (.inr (.inr rfl)) ?_)));exact vQ (x:=.arr a) hB hl K trivial hk rfl rfl m hd hw (.inl rfl) rfl (oL (P:=λl=>Q (.d (.int (aw l (.arr a):Nat))) (kH F l wr r f)) m q)
theorem ES{i:Int}(hl:ks.length+17<ah)(K:a6 ks)(h:0<=i)(q:Q (.d (.int (aw (aT ks (.var i)) (.var i):Nat))) (kH F (aT ks (.var i)) wr r f)):aq B (n+7) "var_kind" [.s 0,.d (.int i)] (kH F ks wr r f) Q Z:=by
 refine .df hB 14 rfl rfl ⟨_,s9,Gd.of rfl (vR (x:=.var i) hB K trivial (λz m=>nomatch m) rfl (λm=>?_) λm=>oK (P:=λl=>Q (.d (.int (aw l (.var i):Nat))) (kH F l wr r f)) m q)⟩;refine Gd.of rfl (NV hB (Rh hl) K h (Gd.of rfl (Hh hB ?_)));exact vQ (x:=.var i) hB hl K trivial (λz m=>nomatch m) rfl rfl m (by decide:(1:Int)<=24) (by decide:(1:Int)<=4096) (.inr rfl) rfl (oL (P:=λl=>Q (.d (.int (aw l (.var i):Nat))) (kH F l wr r f)) m q)
theorem Iq{t:Int}(ht:40<=t)(er:bc F ks x=named F ks t x.kids)(nx:x.np)(hkd:kd (bc F ks x)=3)(ok:aP (bc F ks x)=true)(hl:ks.length+17<ah)(K:a6 ks)(hk:∀z∈x.kids,aS ks z)(hf:x.kids.foldl pw (1,1,0)=(x.dep,x.cb,x.eJ))(hd:x.dep<=24)(hw:x.cb<=4096){s:Int}(hs:tg F t=s)
  (q:Q (.d (.int (aw (aT ks x) x:Nat))) (kH F (aT ks x) wr r f)):aq B (n+6) "KindTable.put" [.s 0,.d (.tuple [.int s,.int t,.tuple (dR (x.kids.map (aw ks)))])] (kH F ks wr r f) Q Z:=by
 have er':bc F ks x=.tuple [.int s,.int t,.tuple (dR (x.kids.map (aw ks)))]:=hs▸er;have tl:=λm=>vQ (n:=n) (Z:=Z) hB hl K nx hk hkd ok m hd hw (.inl rfl) hf (oL (P:=λl=>Q (.d (.int (aw l x))) (kH F l wr r f)) m q);have pk:=vR (n:=n) (wr:=wr) (r:=r) (f:=f) (Q:=Q) (Z:=Z) hB K nx hk hkd;rw [er'] at pk tl;refine pk (λm=>?_) λm=>oK (P:=λl=>Q (.d (.int (aw l x))) (kH F l wr r f)) m q;rcases (hs▸jV F t:s=2\/s=3) with rfl|rfl
 ·exact Gd.of rfl (DR hB (.inl rfl) ht (Rh hl) K hk (Gd.of rfl (vF hB (.inl rfl) (tl m))))
 ·exact Gd.of rfl (DR hB (.inr rfl) ht (Rh hl) K hk (Gd.of rfl (vF hB (.inr (.inl rfl)) (tl m))))
theorem NU{t:Int}(ht:40<=t){l:List QI}(ok:aP (.tuple [.int 2,.int t,.tuple l])=true){v:QI}{p p':HP}(h:∀{Q:W->HP->Prop},Q (.d v) p'->aq B (n+6) "KindTable.put" [.s 0,.d (.tuple [.int 2,.int t,.tuple l])] (kH F ks wr r f) Q Z)(q:Q (.d v) p'):aq B (n+7) "class_kind" [.s 0,.d (.int t),.d (.tuple l)] (kH F ks wr r f) Q Z:=.df hB 10 rfl rfl (Br.no (by refine aa (wW ht (by decide)) ?_;rfl) ⟨_,s9,Gd.ok ok (Gd.of rfl (h q))⟩)
theorem ET{t:Int}(ht:40<=t){l:List QI}(ok:aP (.tuple [.int 3,.int t,.tuple l])=true){v:QI}{p p':HP}(h:∀{Q:W->HP->Prop},Q (.d v) p'->aq B (n+6) "KindTable.put" [.s 0,.d (.tuple [.int 3,.int t,.tuple l])] (kH F ks wr r f) Q Z)(q:Q (.d v) p'):aq B (n+7) "value_kind" [.s 0,.d (.int t),.d (.tuple l)] (kH F ks wr r f) Q Z:=.df hB 11 rfl rfl (Br.no (by refine aa (wW ht (by decide)) ?_;rfl) ⟨_,s9,Gd.ok ok (Gd.of rfl (h q))⟩)
theorem BQ(hl:ks.length+16<ah)(K:a6 ks)(h:aS ks x){s:Int}{l:List QI}(e:bc F ks x=.tuple (.int s::l))(q:Q (.d (.int s)) (kH F ks wr r f)):aq B (n+2) "kind_sort" [.s 0,.d (.int (aw ks x))] (kH F ks wr r f) Q Z:=.df hB 15 rfl rfl ⟨_,jf,Gd.of rfl (j9 hB hl K h (by refine aa e ?_;exact q))⟩
theorem zq(hl:ks.length+16<ah)(K:a6 ks)(h:aS ks x){s t:Int}{a:QI}(hs:s=2\/s=3)(e:bc F ks x=.tuple [.int s,.int t,a])(q:Q (.d (.int t)) (kH F ks wr r f)):aq B (n+2) "tid_of" [.s 0,.d (.int (aw ks x))] (kH F ks wr r f) Q Z:=by
 refine .df hB 16 rfl rfl ⟨_,jf,Gd.of rfl (j9 hB hl K h ?_)⟩;refine aa e ?_;rcases hs with rfl|rfl<;>exact q
theorem yC(hl:ks.length+16<ah)(K:a6 ks)(h:aS ks x){s t:Int}{a:QI}(hs:s=2\/s=3)(e:bc F ks x=.tuple [.int s,.int t,a])(q:Q (.d a) (kH F ks wr r f)):aq B (n+2) "args_of" [.s 0,.d (.int (aw ks x))] (kH F ks wr r f) Q Z:=by
 refine .df hB 17 rfl rfl ⟨_,jf,Gd.of rfl (j9 hB hl K h ?_)⟩;refine aa e ?_;rcases hs with rfl|rfl<;>exact q
end
theorem LF:∀k:Nat,k<11->(40+(k:Int))∈dz:=by decide
theorem A0{t:Int}(h:40<=t/\t<=50):t∈dz:=(Ue h.1).elim λk e=>e▸LF k (by omega)
theorem dD{t s:Int}(h:40<=t)(e:s<40):t≠s:=λq=>absurd e (Tf.mpr (q▸h))
theorem A7{g:Int->W}{l:List Int}{t:Int}(h:t∈l):a5 (l.map λt=>(.int t,g t)) (.int t)=some (g t):=by
 induction l with
 |nil=>exact nomatch h
 |cons a l ih=>
  refine aa Ut (aa dE ?_);by_cases e:a=t
  ·exact aa (QR (QQ _ e)) (aa e rfl)
  ·exact aa (QP λq=>e (cj _ _ q)) (aa (ih ((QZ.mp h).resolve_left (UG e))) rfl)
theorem fz{F:Fx}{t:Int}(h:40<=t/\t<=50):a5 (iZ F) (.int t)=some (.d (F.ti t).d):=A7 (A0 h)
theorem uj{d e n:Int}(h:d<=n)(h':e+1<=n):deeper d e<=n:=by unfold deeper;by_cases q:d<e+1<;>simp [q,h,h']
theorem X.ou:∀x:X,x.dep<=x.ht+1
 |.arr x=>uj (Ww (R7 _)) (XI x.ou 1)
 |.c1 _ a=>uj (Ww (R7 _)) (XI a.ou 1)
 |.c2 _ a b=>(by
   have ha:=a.ou;have hb:=b.ou;refine (?_:deeper (deeper 1 a.dep) b.dep<=((max a.ht b.ht+1:Nat):Int)+1);exact uj (uj (by lia) (by lia)) (by lia))
 |.p _|.var _|.c0 _=>WE _
theorem X.mJ:∀x:X,x.cb<=x.size
 |.arr x=>(by have:=x.mJ;refine (?_:1+x.cb<=((x.size+1:Nat):Int));lia)
 |.c1 _ a=>(by have:=a.mJ;refine (?_:1+a.cb<=((a.size+1:Nat):Int));lia)
 |.c2 _ a b=>(by have:=a.mJ;have:=b.mJ;refine (?_:1+a.cb+b.cb<=((a.size+b.size+1:Nat):Int));lia)
 |.p _|.var _|.c0 _=>WE _
section
variable{B:Bs}{F:Fx}{wr:List (QI×W)}{r:List (Option af)}{f:Nat->Int->Option af}{Z:QI->QI->HP->Prop}(hB:aJ B)
include hB
theorem wF{n:Nat}{ks:List X}{x:X}{t:Int}{Q:W->HP->Prop}(ht:40<=t/\t<=50)(er:bc F ks x=named F ks t x.kids)(nx:x.np)(hkd:kd (bc F ks x)=3)(ok:aP (bc F ks x)=true)(hl:ks.length+17<ah)(K:a6 ks)(hk:∀z∈x.kids,aS ks z)(hf:x.kids.foldl pw (1,1,0)=(x.dep,x.cb,x.eJ))(hh:x.ht<=20)(hs:x.size<=4000)
  (q:Q (.d (.int (aw (aT ks x) x:Nat))) (kH F (aT ks x) wr r f)) {l:List QI} {tt:List af}:
  aD (Ss.dr 4 BL.body) (aL B (n+7) [("w",.s 6),("kt",.s 0),("x",.d (.tuple (.int t::l))),("inner",.d (.tuple (dR (x.kids.map (aw ks)))))] Z) ⟨kH F ks wr r f,tt⟩ (bO Q):=by
 have hd:x.dep<=24:=Ti x.ou (by lia);have hw:x.cb<=4096:=Ti x.mJ (by lia);have pn:=λ{Q:W->HP->Prop} s hs=>Iq (n:=n) (wr:=wr) (r:=r) (f:=f) (Z:=Z) (Q:=Q) (s:=s) hB ht.1 er nx hkd ok hl K hk hf hd hw hs;have ok':∀s,tg F t=s->aP (.tuple [.int s,.int t,.tuple (dR (x.kids.map (aw ks)))])=true:=λs e=>by subst e;rw [er] at ok;exact ok
 refine Wo.cI (fz ht) ?_;by_cases e:(F.ti t).struct=0
 ·exact Br.nn e (NU (p:=kH F ks wr r f) hB ht.1 (ok' 2 (QR e)) (pn 2 (QR e)) q)
 ·exact Br.ny e (ET (p:=kH F ks wr r f) hB ht.1 (ok' 3 (QP e)) (pn 3 (QP e)) q)
theorem BA:∀(x:X){m:Nat}{ks:List X}{Q:W->HP->Prop}{Z:QI->QI->HP->Prop},Wx F x->x.ht<=20->x.size<=4000->x.ht<=m->a6 ks->ks.length+x.size+17<ah->Q (.d (.int (aw (bC ks x) x:Nat))) (kH F (bC ks x) wr r f)->
  aq B (m+8) "_law_kind" [.s 6,.s 0,.d x.d] (kH F ks wr r f) Q Z:=by
 intro x
 induction x with
 |p i=>
  intro m ks Q Z w hh hs _ K hl q;exact .df hB 56 rfl rfl (by rcases w with rfl|rfl|rfl|rfl<;>exact q)
 |arr a ih=>
  intro m ks Q Z w hh hs hm K hl q;obtain ⟨m,rfl⟩:∃m',m=m'+1:=⟨m -1,(U8 (SH (Tw _) hm)).symm⟩;have hm:=Rv hm;have i:=iu F a K w;have hl:ks.length+(a.size+1)+17<ah:=hl;refine .df hB 56 rfl rfl ?_;refine Gd.of rfl (ih w (Ry hh) (Ry hs) hm K (QO (Ri (RI _) 17) hl) ?_);exact Gd.of rfl (PE hB (QO (Ri (QN (nV a (ks:=ks)) (RI _)) 17) hl) i.k i.has (Ti (X.ou _) (by lia)) (Ti (X.mJ _) (by lia)) q)
 |var j=>
  intro m ks Q Z w hh hs _ K hl q;exact .df hB 56 rfl rfl (Gd.of rfl (ES hB (QO (Ri (Ra _ _) _) hl) K w q))
 |c0 t=>
  intro m ks Q Z w hh hs _ K hl q;refine .df hB 56 rfl rfl ?_;refine Br.en (dD w.1.1 (by decide)) (Br.en (dD w.1.1 (by decide)) (Br.en (dD w.1.1 (by decide)) ?_));refine ⟨rfl,?_⟩;refine ⟨.t 0,rfl,?_⟩;exact wF (x:=.c0 t) hB w.1 rfl trivial rfl rfl (QO (Ri (Ra _ _) _) hl) K (λz m=>nomatch m) rfl hh hs q
 |c1 t a ih=>
  intro m ks Q Z w hh hs hm K hl q;obtain ⟨m,rfl⟩:∃m',m=m'+1:=⟨m -1,(U8 (SH (Tw _) hm)).symm⟩;have hm:=Rv hm;have i:=iu F a K w.2.2;have hl:ks.length+(a.size+1)+17<ah:=hl;refine .df hB 56 rfl rfl ?_;refine Br.en (dD w.1.1 (by decide)) (Br.en (dD w.1.1 (by decide)) (Br.en (dD w.1.1 (by decide)) ?_));refine ⟨rfl,Gd.of rfl (ih w.2.2 (Ry hh) (Ry hs) hm K (QO (Ri (RI _) 17) hl) ?_)⟩;refine Gd.of rfl ⟨rfl,?_⟩;refine ⟨.t 0,rfl,?_⟩;exact wF (x:=.c1 t a) hB w.1 rfl trivial rfl rfl (QO (Ri (QN (nV a (ks:=ks)) (RI _)) 17) hl) i.k (λz m=>QW.mp m▸i.has) rfl hh hs q
 |c2 t a b ih ih'=>
  intro m ks Q Z w hh hs hm K hl q;obtain ⟨m,rfl⟩:∃m',m=m'+1:=⟨m -1,(U8 (SH (Tw _) hm)).symm⟩;have hm:=T5.mp (Rv hm);have h2:=T5.mp (Ry hh);have s2:=Ry hs;have i:=iu F a K w.2.2.1;have j:=iu F b i.k w.2.2.2;have la:=nV a (ks:=ks);have lb:=nV b (ks:=bC ks a);have hl:ks.length+(a.size+b.size+1)+17<ah:=hl;have l1:ks.length+a.size+17<ah:=QO (Ri (Rj (QN (Ra a.size b.size) (RI _)) _) 17) hl;have l2:(bC ks a).length+b.size+17<ah:=QO (Ri (QN (Ri la b.size) (QN (R4 (SO ..)) (Rj (RI _) _))) 17) hl;refine .df hB 56 rfl rfl ?_;refine Br.en (dD w.1.1 (by decide)) (Br.en (dD w.1.1 (by decide)) (Br.en (dD w.1.1 (by decide)) ?_));have e:=j.pre.elim λt e=>e▸(ka i.k i.has).symm
  have ih:∀{Q:W->HP->Prop}{Z:QI->QI->HP->Prop},Q (.d (.int (aw (bC (bC ks a) b) a:Nat))) (kH F (bC ks a) wr r f)->aq B (m+8) "_law_kind" [.s 6,.s 0,.d a.d] (kH F ks wr r f) Q Z:=λq=>ih w.2.2.1 h2.1 (QN (Ra ..) s2) hm.1 K l1 (e▸q);refine ⟨rfl,Gd.of rfl (ih ?_)⟩;refine Gd.of rfl ⟨rfl,Gd.of rfl (ih' w.2.2.2 h2.2 (QN (Sd ..) s2) hm.2 i.k l2 ?_)⟩;refine Gd.of rfl ⟨rfl,?_⟩;refine ⟨.t 0,rfl,?_⟩;exact wF (x:=.c2 t a b) hB w.1 rfl trivial rfl rfl (QO (Ri lb 17) l2) j.k (λz m=>(QZ.mp m).elim (λe=>e▸j.old i.has) λm=>QW.mp m▸j.has) rfl hh hs q
end
structure Tr n d:Prop where
 key:nK n d=true
 pure:hO d=true
 dp:Ug d<=n
theorem BX{f g:List QI->Bool}(h:∀l,f l=true->g l=true){d:QI}(k:dQ f d=true):dQ g d=true:=by
 cases d with
 |tuple l=>exact h l k
 |_=>exact k
theorem Lo{n:Nat}:∀l,qs n l=true->qs (n+1) l=true:=n.rec (λl k=>ff k) λn ih l k=>Rp.mpr λx m=>BX ih (Rp.mp k x m)
theorem Tr.more{n m:Nat}{d:QI}(t:Tr n d)(h:n<=m):Tr m d:=h.rec t λ_ t=>⟨BX Lo t.key,t.pure,RQ t.dp⟩
theorem Tr.ok{n:Nat}{d:QI}(t:Tr n d)(h:n<=30):aP d=true:=by
 unfold aP;refine aa t.pure (aa (decide_eq_true (Nat.le_trans t.dp h)) ?_);rfl
theorem Tr.eqv{n m:Nat}{d e:QI}(t:Tr n d)(u:Tr m e):Rk d e=decide (d=e):=tQ (max n m) d e (t.more (TR ..)).key (u.more (TC ..)).key
theorem Tr.int i:Tr 0 (.int i):=⟨rfl,rfl,Rl _⟩
theorem Tr.str{s:Str}(h:TU s=true):Tr 0 (.str s):=⟨rfl,h,Rl _⟩
theorem Tr.tup{n:Nat}{l:List QI}(h:∀x∈l,Tr n x)(hl:l.length<=1000):Tr (n+1) (.tuple l):=
 have ps:∀l:List QI,(∀x∈l,Tr n x)->hK l=true/\UX l<=n:=λl=>l.rec (λ_=>⟨rfl,Rr _⟩) λx t ih h=>by
  have a:=h x (.head _);have b:=ih λy m=>h y (.tail _ m);refine ⟨Q8.mpr ⟨a.pure,b.1⟩,?_⟩;exact T5.mpr ⟨a.dp,b.2⟩
 ⟨Rp.mpr λx m=>(h x m).key,Q8.mpr ⟨Rc hl,(ps l h).1⟩,by unfold PyData.depth;exact QU (ps l h).2⟩
theorem zF{k:Nat}(h:k<ah):bE k=true:=Tg.mpr (Rt h (by decide+kernel))
theorem Gd.small{k:Nat}{Q:Prop}(h:k<ah)(q:Q):Gd (bE k) Q:=Gd.of (zF h) q
theorem C7{a b:Str}:Rk (.str a) (.str b)=decide (a=b):=(tQ 0 _ _ rfl rfl).trans (decide_eq_decide.mpr ⟨λe=>by injection e,λe=>e▸rfl⟩)
theorem Br.oj{d e:QI}{P Q:Prop}(h:Rk d e=true)(q:P):Br (Rk d e) P Q:=.yes h q
theorem Br.qQ{d e:QI}{P Q:Prop}(h:Rk d e=false)(q:Q):Br (Rk d e) P Q:=.no h q
def ix{α:Type}(l:List α)(x:α):Nat:=l.idxOf x
theorem CQ{α:Type}{l:List α}{x:α}{body:Ro->Hs->Kw->Prop}{K:Kw}{h:Hs}{ρ0:Ro}
  (st:∀i y f,l[i]?=some y->(y≠x->∀ρ,bz ρ0 ρ->f ρ h)->(y=x->ix l x=i)->body (dk ρ0 "place" (.d (.int (0+i)))) h ⟨f,K.ret,f⟩) (fin:x∉l->K.ay ρ0 h) {ρ:Ro} (s:bz ρ0 ρ):
  bI gF (mF "place") body K (fA 0 l.length) ρ h:=by
 have key:∀(t p:List α) i,l=p++t->p.length=i->x∉p->∀ρ,bz ρ0 ρ->bI gF (mF "place") body K ((Zu i t.length).map λk:Nat=>.d (.int (0+k))) ρ h:=λt=>t.rec
  (λp i e _ m ρ s=>⟨trivial,ρ0,s,fin (by(refine aa e ?_;rewrite [SI]);exact m)⟩)
  λy t ih p i e hi m ρ s=>⟨trivial,ρ0,s,st i y _ (by(refine aa e (a9 hi (aa (TM (Rl _)) ?_));rewrite [YX]);rfl)
   (λne ρ s=>ih (p++[y]) (i+1) (by(refine aa e ?_;rewrite [Sh]);rfl) (by refine aa Q2 (aa hi ?_);rfl) (λq=>(RL.mp q).elim m λq=>ne (QW.mp q).symm) ρ s)
   λe'=>by unfold ix;(refine aa e (aa (xp m) (aa e' (aa XH ?_)));rewrite [Nat.add_zero];refine aa hi ?_;rfl)⟩
 have e:fA 0 l.length=(Zu 0 l.length).map λk:Nat=>.d (.int (0+k)):=by
  unfold fA;(rewrite [Int.sub_zero,Int.toNat_natCast];refine aa List.range_eq_range' ?_;rfl)
 exact e▸key l [] 0 rfl rfl (λq=>nomatch q) ρ s
theorem grown{α β:Type}{l:List α}{x:α}{L L':List β}(hl:L.length=l.length+1)(e:L=L')(m:x∉l){P:Int->List β->Prop}(q:P (ix l x) L'):P (L.length -1) L:=by
 subst e
 (refine aa hl ?_;rewrite [Int.natCast_succ,Int.add_sub_cancel];refine a9 (VM m) ?_)
 exact q
section
variable{B:Bs}{F:Fx}{A:Ab}{b:QI}{n:Nat}{Q:W->HP->Prop}{Z:QI->QI->HP->Prop}(hB:aJ B)
include hB
theorem vt{x:Str}(hl:A.texts.length+1<ah)(q:Q (.d (.int (ix A.texts x))) (hc F (A.k4 x) b)):aq B (n+1) "PlainHeap.put" [.s 24,.d (.str x)] (hc F A b) Q Z:=by
 have h1:=Rh hl;refine .df hB 21 rfl rfl ?_;have ll:(A.texts.map λx=>W.d (.str x)).length=A.texts.length:=QX _;refine Wo.len (ll.symm▸h1) ?_;refine Gd.small (ll.symm▸h1) ?_;refine aa ll ?_;refine CQ (x:=x) (ρ0:=[("self",.s 24),("value",.d (.str x))]) ?_ ?_ ⟨rfl,rfl,trivial⟩
 ·intro i y f hi no yes
  have h0:bZ (A.texts.map λx=>W.d (.str x)) (0+i)=some (.d (.str y)):=by rewrite [UE];exact at_of (Rt (j5 hi) h1) (by refine aa (RJ) (aa hi ?_);rfl)
  refine Wo.at h0 ?_;by_cases e:y=x
  ·refine Br.oj (C7.trans (Rc e)) ?_
   have q':Q (.d (.int (0+i))) (hc F A b):=by(rewrite [UE];refine a9 (yes e) ?_);exact oK (P:=λl=>Q _ (hc F {A with texts:=l} b)) (e▸UC hi) q
   exact q'
  ·exact Br.qQ (C7.trans (Rm e)) (no e _ ⟨rfl,rfl,trivial⟩)
 ·intro m
  refine Gd.lim (ll.symm▸h1) ?_;refine Gd.of rfl ?_;have l2:((A.texts.map λx=>W.d (.str x))++[W.d (.str x)]).length=A.texts.length+1:=by refine aa Q2 (aa ll ?_);rfl
  refine Wo.len (l2▸hl) ?_;exact grown l2 (Rq (l₂:=[x])).symm m (P:=λk l=>Q (.d (.int k)) ⟨upd (hc F A b).s 25 (some (.lst l)),(hc F A b).f,(hc F A b).g⟩) (oL (P:=λl=>Q (.d (.int (ix A.texts x))) (hc F {A with texts:=l} b)) m q)
end
noncomputable def j3(l:List QI):List W:=.bb::dW l
theorem AI{l:List QI}:(j3 l).length=l.length+1:=QQ TX cp
theorem W.x5{x y:QI}(e:W.d x=.d y):x=y:=by injection e
theorem B0{l:List QI}{x:QI}:ix (j3 l) (.d x)=ix l x+1:=by
 unfold ix j3;refine aa Uq (aa (Q3.mpr λe:W.bb=.d x=>nomatch e) ?_);exact QQ TX (lU λy _ e=>W.x5 e)
theorem Jf{l:List QI}{x:QI}:.d x∈j3 l↔x∈l:=(QZ.trans (or_iff_right λe:W.d x=.bb=>nomatch e)).trans (mem_map λy _ e=>W.x5 e)
section
variable{B:Bs}{F:Fx}{A:Ab}{b:QI}{n:Nat}{Q:W->HP->Prop}{Z:QI->QI->HP->Prop}(hB:aJ B)
include hB
theorem OZ{xs:List QI}(tx:Tr 25 (.tuple xs))(ts:∀y∈A.aH,Tr 25 y)(hl:A.aH.length+2<ah)(q:Q (.d (.int (ix A.aH (.tuple xs)+1:Nat))) (hc F (A.gT (.tuple xs)) b)):aq B (n+1) "PlainHeap.put" [.s 30,.d (.tuple xs)] (hc F A b) Q Z:=by
 have h2:(j3 A.aH).length+1<ah:=AI.symm▸hl;have h1:=Rh h2;refine .df hB 21 rfl rfl ?_;refine Wo.len h1 ?_;refine Gd.small h1 ?_;refine CQ (x:=.d (.tuple xs)) (ρ0:=[("self",.s 30),("value",.d (.tuple xs))]) ?_ ?_ ⟨rfl,rfl,trivial⟩
 ·intro i y f hi no yes
  have h0:bZ (.bb::dW A.aH) (0+i)=some y:=by rewrite [UE];exact at_of (Rt (j5 hi) h1) hi
  refine Wo.at h0 ?_;refine (QZ.mp (UC hi)).elim (λe=>?_) λm=>(Su.mp m).elim λy' e'=>?_
  ·subst e
   exact no (λe=>nomatch e) _ ⟨rfl,rfl,trivial⟩
  ·obtain ⟨my,rfl⟩:=e'
   have ev:=(ts y' my).eqv tx;by_cases e:y'=.tuple xs
   ·refine Br.oj (ev.trans (Rc e)) ?_
    have q':Q (.d (.int (0+i))) (hc F A b):=by(rewrite [UE];refine a9 (yes (QQ W.d e)) (aa B0 ?_));exact oK (P:=λl=>Q _ (hc F {A with aH:=l} b)) (e▸my) q
    exact q'
   ·exact Br.qQ (ev.trans (Rm e)) (no (λq=>e (W.x5 q)) _ ⟨rfl,rfl,trivial⟩)
 ·intro m
  refine Gd.lim h1 ?_;refine Gd.of rfl ?_;have l2:(j3 A.aH++[W.d (.tuple xs)]).length=(j3 A.aH).length+1:=Q2;refine Wo.len (l2▸h2) ?_;exact grown l2 (QQ (XU W.bb) gb) m (P:=λk l=>Q (.d (.int k)) ⟨upd (hc F A b).s 31 (some (.lst l)),(hc F A b).f,(hc F A b).g⟩) (B0.symm▸oL (P:=λl=>Q (.d (.int (ix A.aH (.tuple xs)+1:Nat))) (hc F {A with aH:=l} b)) (λq=>m (Jf.mpr q)) q)
theorem zK{s:QI}{xs:List QI}(tx:Tr 25 (.tuple xs))(ts:∀y∈A.aH,Tr 25 y)(hl:A.aH.length+2<ah)(q:Q (.d (.int (ix A.aH (.tuple xs)+1:Nat))) (hc F (A.gT (.tuple xs)) b)):aq B (n+2) "Pages.sig" [.s 21,.d s,.d (.tuple xs)] (hc F A b) Q Z:=.df hB 28 rfl rfl ⟨_,ta,Gd.of rfl (OZ hB tx ts hl q)⟩
end
def bW(A:Ab)(t:Int)(row:QI):Ab:={A with tabs:=aT A.tabs t,tab:=λu=>if u=t then A.tab t++[row] else A.tab u}
theorem pj{l:List Int}{t:Int}:a5 (l.map λt=>(.int t,.f 11 t)) (.int t)=if t∈l then some (.f 11 t) else none:=by
 by_cases m:t∈l
 ·exact aa (QR m) (aa (A7 m) rfl)
 ·refine aa (QP m) ?_
  induction l with
  |nil=>rfl
  |cons a l ih=>exact aa Ut (aa dE (aa (QP λe=>m ((cj _ _ e:a=t)▸.head _)) (aa (ih λq=>m (.tail _ q)) rfl)))
theorem iO.app{c:Wc}{args:(List W->Hs->Prop)->Prop}{h:Hs}{v:W}{Q:W->Hs->Prop}{l:List W}(e:h.get v=some (.lst l))(q:Gd (!v.top) (args (wO v Q))):iO c "append" args h v Q:=by unfold iO;refine aa e ?_;exact q
theorem Wo.lst{o:Option af}{l:List W}{Q:List W->Prop}(e:o=some (.lst l))(q:Q l):Wo (d6 o) Q:=by refine aa e ?_;exact q
theorem xW{F:Fx}{A:Ab}{t:Int}(m:t∈A.tabs):d9 F A 11 t=some (.lst (dW (A.tab t))):=QR m
theorem CT{F:Fx}{A:Ab}{t:Int}{row:QI}:(λj m=>if j=11/\m=t then some (.lst (dW (A.tab t)++[.d row])) else d9 F A j m)=d9 F (bW A t row):=by
 funext j m
 unfold d9
 cases e:Uu j 11 with
 |false=>exact QP λq=>absurd ((Nat.beq_eq.mpr q.1).symm.trans e) (nofun)
 |true=>
  have e:=Nat.beq_eq.mp e;by_cases q:m=t
  ·refine aa (QR ⟨e,q⟩) (aa gb ?_);subst q;unfold rR bW;refine aa (QR jy) ?_;exact QQ (λl=>some (af.lst (dW l))) (QR rfl).symm
  ·have mm:m∈aT A.tabs t↔m∈A.tabs:=by unfold aT;by_cases h:t∈A.tabs<;>simp [h,q]
   have tm:(bW A t row).tab m=A.tab m:=QP q;refine aa (QP λp=>q p.2) ?_;by_cases h:m∈A.tabs
   ·exact (QR h).trans ((QQ (λl=>some (af.lst (dW l))) tm.symm).trans (QR (mm.mpr h)).symm)
   ·exact (QP h).trans (QP λp=>h (mm.mp p)).symm
theorem get_set{h:Hs}{k:Nat}{i:Int}{c:af}:(h.set (.f k i) c).get (.f k i)=some c:=QR ⟨rfl,rfl⟩
theorem xE{s:List (Option af)}{f:Nat->Int->Option af}{g:List af}{t:List af}{k:Nat}{i:Int}{c:af}:Hs.get ⟨⟨s,λj m=>if j=k/\m=i then some c else f j m,g⟩,t⟩ (.f k i)=some c:=QR ⟨rfl,rfl⟩
theorem Cu{l:List (QI×W)}{k:QI}{w:W}(h:a5 l k=none):a5 (l++[(k,w)]) k=some w:=by
 induction l with
 |nil=>exact dE.trans (QR rfl)
 |cons p l ih=>
  rw [dE] at h;refine aa Vv (aa dE ?_);by_cases e:p.1=k
  ·rw [QR e] at h;exact nomatch h
  ·rw [QP e] at h;exact aa (QP e) (aa (ih h) rfl)
theorem MC{g:Nat->Int->Option af}{t:Int}{c c':af}:(λj m=>if j=11/\m=t then some c' else if j=11/\m=t then some c else g j m)=λj m=>if j=11/\m=t then some c' else g j m:=by
 funext j m
 by_cases q:j=11/\m=t
 ·exact aa (QR q) (aa (QR q) rfl)
 ·exact aa (QP q) (aa (QP q) (aa (QP q) rfl))
theorem Wo.tE{h:Hs}{v:W}{l:List W}{Q:Nat->Prop}(e:h.get v=some (.lst l))(hl:l.length<ah)(q:Q l.length):Wo (lO h v) Q:=by unfold lO;refine aa e ?_;exact Wo.len hl q
theorem Gb{A:Ab}{F:Fx}{b:QI}{t:Int}{row:QI}{Q:W->HP->Prop}{k:Nat}(m:t∈A.tabs)(e:k=(A.tab t).length+1)(q:Q (.d (.int ((A.tab t).length+1:Nat))) (hc F (bW A t row) b)):
  Q (.d (.int k)) ⟨(hc F A b).s,λj m=>if j=11/\m=t then some (.lst (dW (A.tab t)++[.d row])) else d9 F A j m,(hc F A b).g⟩:=by
 refine aa CT (aa e ?_);exact oK (P:=λl=>Q (.d (.int ((A.tab t).length+1:Nat))) ⟨(hc F {A with tabs:=l} b).s,d9 F (bW A t row),(hc F A b).g⟩) m q
theorem Ge{A:Ab}{F:Fx}{b:QI}{t:Int}{row:QI}{Q:W->HP->Prop}(m:t∉A.tabs)(e0:A.tab t=[])(q:Q (.d (.int ((A.tab t).length+1:Nat))) (hc F (bW A t row) b)):
  Q (.d (.int (1:Nat))) ⟨upd (hc F A b).s 23 (some (.aj 1 ((A.tabs.map λt=>(.int t,.f 11 t))++[(.int t,.f 11 t)]))),λj m=>if j=11/\m=t then some (.lst [.d row]) else if j=11/\m=t then some (.lst []) else d9 F A j m,(hc F A b).g⟩:=by
 have e:[W.d row]=dW (A.tab t)++[.d row]:=by refine aa e0 ?_;rfl
 have l1:((1:Nat):Int)=((A.tab t).length+1:Nat):=by refine aa e0 ?_;rfl
 have e2:(A.tabs.map λt=>(RM t,W.f 11 t))++[(.int t,.f 11 t)]=(A.tabs++[t]).map λt=>(.int t,.f 11 t):=(Rq (l₂:=[t])).symm;refine aa MC (aa e (aa CT (aa l1 (aa e2 ?_))));exact oL (P:=λl=>Q (.d (.int ((A.tab t).length+1:Nat))) ⟨(hc F {A with tabs:=l} b).s,d9 F (bW A t row),(hc F A b).g⟩) m q
section
variable{B:Bs}{F:Fx}{A:Ab}{b:QI}{n:Nat}{Q:W->HP->Prop}{Z:QI->QI->HP->Prop}(hB:aJ B)
include hB
theorem uH{t:Int}{row:QI}(no:t∉A.tabs->A.tab t=[])(h4:A.tabs.length<ah)(hl:(A.tab t).length+1<ah)(q:Q (.d (.int ((A.tab t).length+1:Nat))) (hc F (bW A t row) b)):aq B (n+1) "PlainTables.add" [.s 22,.d (.int t),.d row] (hc F A b) Q Z:=by
 have h4:(A.tabs.map λt=>(RM t,W.f 11 t)).length<ah:=(QX _).symm▸h4;refine .df hB 24 rfl rfl ?_;by_cases m:t∈A.tabs
 ·refine ⟨.t 0,rfl,?_⟩
  refine Gd.lim h4 ?_;refine Oc.yes (pj.trans (QR m)) ?_;refine iO.app (xW (F:=F) m) ?_;refine Wo.lst (xW (F:=F) m) ?_;refine Gd.lim (cp.symm▸Rh hl) ?_;refine Wo.cI (pj.trans (QR m)) ?_;refine Wo.tE get_set (by refine aa gb (aa cp (aa Q2 ?_));exact hl) ?_;exact Gb m (by refine aa gb (aa cp ?_);exact Q2) q
 ·refine ⟨.f 11 t,QP m,?_⟩
  refine Gd.lim h4 ?_;refine Oc.no (pj.trans (QP m)) ?_;refine Gd.of rfl ?_;refine iO.app xE ?_;refine Wo.lst xE ?_;refine Wo.cI (Cu (pj.trans (QP m))) ?_;refine Wo.tE xE (QO (Sd 1 _) hl) ?_;exact Ge m (no m) q
end
def R(α:Type):Type:=LS->Except (QI×QI) α×LS
def Run{α:Type}(g:Except (QI×QI) α×LS)(ok:α->LS->Prop)(er:QI×QI->LS->Prop):Prop:=g.1.rec (λb=>er b g.2) λa=>ok a g.2
noncomputable def R.ret{α:Type}(a:α):R α:=λS=>(.ok a,S)
def R.bind{α β:Type}(m:R α)(f:α->R β):R β:=λS=>(m S).1.rec (λb=>(.error b,(m S).2)) λa=>f a (m S).2
theorem Run.bind{α β:Type}{m:R α}{f:α->R β}{S:LS}{ok:β->LS->Prop}{er:QI×QI->LS->Prop}(h:Run (R.bind m f S) ok er):Run (m S) (λa S'=>Run (f a S') ok er) er:=by
 unfold R.bind at h;unfold Run
 cases e:(m S).1 with
 |error b=>rw [e] at h;exact h
 |ok a=>rw [e] at h;exact h
theorem Run.imp{α:Type}{g:Except (QI×QI) α×LS}{ok ok':α->LS->Prop}{er er':QI×QI->LS->Prop}(h:Run g ok er)(i:∀a S,ok a S->ok' a S)(j:∀b S,er b S->er' b S):Run g ok' er':=by
 unfold Run at*;revert h;exact g.1.rec (λb h=>j _ _ h) λa h=>i _ _ h
noncomputable def bad(w:String)(i:Int):QI×QI:=(sS w,.int i)
def dy(a:Int):Prop:=a=0\/a=1\/a=3
def LS.aQ(S:LS)(a:Int):LS:={S with aI:=aT S.aI a}
def iL(a:Int):R Int:=λS=>if dy a then(.ok (1+ix S.aI a:Nat),S.aQ a) else(.error (bad "asm" a),S)
noncomputable def bU:List Int:=[40,41,42,43,44,45,46,47]
def iB(F:Fx)(t u:Int):Prop:=(F.ti u).key=(F.ti t).key/\(F.ti u).bB=0
noncomputable def bY(F:Fx)(t:Int):List Int->Int
 |[]=>0
 |u::l=>if iB F t u then u else bY F t l
def LS.ref(F:Fx)(S:LS)(t:Int):LS:={S.aQ (F.ti t).aQ with refs:=S.refs++[t]}
def bp(F:Fx)(t:Int):R Int:=λS=>
 if¬(40<=t/\t<=50) then(.error (bad "type" t),S) else if 47<t then(.ok (33554432+t -46),S) else if t∈S.refs then(.ok (16777217+ix S.refs t:Nat),S) else if(F.ti t).bB≠0 then(.error (bad "home" t),S)
 else if bY F t bU≠t\/1<(F.ti t).name.length then(.error (bad "twice" t),S) else(.ok (16777217+ix S.refs t:Nat),S.ref F t)
noncomputable def elt(F:Fx)(t:Int):Int:=if(F.ti t).struct=0 then 18 else 17
noncomputable def As(i:Int):Int:=if i=7 then 8 else if i=9 then 10 else if i=12 then 28 else 14
noncomputable def dZ(F:Fx):X->R QI
 |.p i=>R.ret (.tuple [.int (As i)])
 |.arr x=>(dZ F x).bind λd=>R.ret (.tuple [.int 29,d])
 |.var i=>R.ret (.tuple [.int 19,.int i])
 |.c0 t=>(bp F t).bind λk=>R.ret (.tuple [.int (elt F t),.int k])
 |.c1 t a=>(bp F t).bind λk=>(dZ F a).bind λd=>R.ret (.tuple [.int 21,.int (elt F t),.int k,.tuple [d]])
 |.c2 t a b=>(bp F t).bind λk=>(dZ F a).bind λd=>(dZ F b).bind λe=>R.ret (.tuple [.int 21,.int (elt F t),.int k,.tuple [d,e]])
noncomputable def LS.own(S:LS)(x:X)(d:QI):LS:={S with owners:=S.owners++[x],specs:=S.specs++[d]}
noncomputable def X.tid:X->Option Int
 |.c0 t=>some t
 |_=>none
def hV(F:Fx)(x:X):R Int:=λS=>if x∈S.owners then(.ok (((1+ix S.owners x:Nat):Int)*8+4),S) else((dZ F x).bind λd S'=>(.ok (((1+ix S'.owners x:Nat):Int)*8+4),S'.own x d)) S
def lE(F:Fx)(x:X):R Int:=x.tid.rec (hV F x) λt=>(bp F t).bind λk=>R.ret (k%16777216*8+k/16777216%2)
noncomputable def cC(i:Int):Str:=if i%2=1 then QJ "f" else QJ "g"
noncomputable def LS.use(S:LS)(u:X×Int)(q:Int)(d:QI):LS:={S with used:=S.used++[u],members:=S.members++[(q,cC u.2,.tuple [.int 6,d])]}
def big:X->Prop
 |.c0 t=>47<t
 |_=>False
def f7(F:Fx)(x:X)(i:Int):R Int:=λS=>
 if big x then(.ok (67108864+i -16),S) else if(x,i)∈S.used then(.ok ((167772161+ix S.used (x,i):Nat):Int),S) else
 ((dZ F (F.fx i)).bind λd=>(lE F x).bind λq S'=>(.ok ((167772161+ix S'.used (x,i):Nat):Int),S'.use (x,i) q d)) S
structure Ct where
 ks:List X
 texts:List Str
 aH:List QI
 tabs:List Int
noncomputable def eB(a:Int):Str:=if a=0 then QJ "core" else if a=1 then QJ "lib" else QJ "ext"
noncomputable def di(F:Fx)(t:Int):Str:=if(F.ti t).count=0 then(F.ti t).name else(F.ti t).name++QJ "`"++QJ (toString (XZ (F.ti t).count))
def ja(tx:List Str)(a:Int):QI:=.tuple [.int 1,.int 0,.int 0,.int 0,.int 0,.int 0,.int (ix tx (eB a):Nat),.int 0,.int 0]
def r1(F:Fx)(as:List Int)(tx:List Str)(t:Int):QI:=.tuple [.int ((1+ix as (F.ti t).aQ)*4+2:Nat),.int (ix tx (di F t):Nat),.int 0]
def fB(bl:List QI)(d:QI):QI:=.tuple [.int (ix bl d+1:Nat)]
def eW(tx:List Str)(bl:List QI)(m:Int×Str×QI):QI:=.tuple [.int m.1,.int (ix tx m.2.1),.int (ix bl m.2.2+1:Nat)]
noncomputable def cN(a b c d:List QI)(t:Int):List QI:=if t=35 then a else if t=1 then b else if t=27 then c else if t=10 then d else []
def dA(F:Fx)(S:LS)(tx:List Str)(bl:List QI):Int->List QI:=cN (S.aI.map (ja tx)) (S.refs.map (r1 F S.aI tx)) (S.specs.map (fB bl)) (S.members.map (eW tx bl))
def eZ(ks:List X)(u:X×Int):QI:=.tuple [sS "f",.int (aw ks u.1),.int u.2]
def mk(F:Fx)(L S:LS)(C:Ct):Ab:=⟨L,C.ks,C.texts,C.aH,S.aI.map .int,S.refs.map .int,S.owners.map λx=>.int (aw C.ks x),S.used.map (eZ C.ks),C.tabs,dA F S C.texts C.aH⟩
noncomputable def rG(F:Fx):List Str:=[QJ "",QJ "core",QJ "lib",QJ "ext",QJ "f",QJ "g"]++bU.map (di F)
structure GS F(π:QI->Nat->Prop) u(S:LS)(C:Ct):Prop where
 aN:S.aI.Nodup
 aM:∀a∈S.aI,dy a/\eB a∈C.texts
 rN:S.refs.Nodup
 rM:∀t∈S.refs,(40<=t/\t<=47)/\(F.ti t).aQ∈S.aI/\di F t∈C.texts
 K:a6 C.ks
 oN:S.owners.Nodup
 oM:∀x∈S.owners,aS C.ks x
 uN:S.used.Nodup
 uM:∀p∈S.used,aS C.ks p.1
 oS:S.specs.length=S.owners.length
 uS:S.members.length=S.used.length
 sB:∀d∈S.specs,d∈C.aH
 mB:∀m∈S.members,m.2.1∈C.texts/\m.2.2∈C.aH
 tN:C.texts.Nodup
 tM:∀x∈C.texts,x∈rG F
 bT:∀d∈C.aH,Tr 25 d
 gN:C.tabs.Nodup
 gM:∀t∈C.tabs,t∈[(35:Int),1,27,10]
 jo:(35:Int)∉C.tabs->S.aI=[]
 g1:(1:Int)∉C.tabs->S.refs=[]
 iA:(27:Int)∉C.tabs->S.specs=[]
 jq:(10:Int)∉C.tabs->S.members=[]
 pin:∀d j,π d j->d∈C.aH/\ix C.aH d=j
 len:(S.owners.length<=u/\S.used.length<=u/\C.aH.length<=u)/\u<=1000
theorem nw{α:Type}{l:List α}:∀{m:List α},l.Nodup->(∀x∈l,x∈m)->l.length<=m.length:=by
 induction l with
 |nil=>exact λ_ _=>Rr _
 |cons a l ih=>
  intro m n h;have n:=Tp.mp n;have am:=h a (.head _);have:=ih n.2 λx q=>(List.mem_erase_of_ne λe:x=a=>n.1 (e▸q)).mpr (h x (.tail _ q))
  rw [List.length_erase_of_mem am] at this;exact QN (QU this) (R4 (Yw (List.length_pos_of_mem am)))
theorem jx{α:Type}{l:List α}{x:α}(n:l.Nodup):(aT l x).Nodup:=by
 unfold aT;by_cases h:x∈l
 ·refine aa (QR h) ?_;exact n
 ·refine aa (QP h) ?_;exact S7.mpr ⟨n,RV _ _,λa ha b hb e=>h (by refine a9 (QW.mp hb) (a9 e ?_);exact ha)⟩
theorem gU{α:Type}{l:List α}{x:α}{P:α->Prop}(h:∀y∈l,P y)(p:P x):∀y∈aT l x,P y:=by
 unfold aT;by_cases q:x∈l
 ·refine aa (QR q) ?_;exact h
 ·refine aa (QP q) ?_;exact λy m=>(RL.mp m).elim (h y) λm=>QW.mp m▸p
theorem bV{α:Type}{l:List α}{x y:α}(h:y∈l):y∈aT l x:=(yJ).elim λt e=>e▸VN _ h
theorem uI{α:Type}{l:List α}{x:α}{P:Prop}(h:x∉aT l x):P:=absurd jy h
theorem kb{α:Type}{l:List α}{x:α}(h:x∉l):ix l x=l.length:=VM h
theorem fJ{α:Type}{l:List α}{x:α}:ix l x<=l.length:=List.idxOf_le_length
theorem lV{α:Type}{l:List α}{x y:α}(h:y∈l):ix (aT l x) y=ix l y:=(yJ).elim λt e=>e▸xq h
section
variable{B:Bs}{F:Fx}{π:QI->Nat->Prop}{u:Nat}{L S:LS}{C:Ct}{b:QI}{n:Nat}{Q:W->HP->Prop}{Z:QI->QI->HP->Prop}(hB:aJ B)
theorem GS.tx(g:GS F π u S C):C.texts.length<=14:=nw g.tN g.tM
theorem GS.tb(g:GS F π u S C):C.tabs.length<=4:=nw g.gN g.gM
theorem GS.as(g:GS F π u S C):S.aI.length<=3:=nw (m:=[0,1,3]) g.aN λa m=>by rcases (g.aM a m).1 with rfl|rfl|rfl<;>simp
theorem GS.rf(g:GS F π u S C):S.refs.length<=8:=nw (m:=bU) g.rN λt m=>(Ue (g.rM t m).1.1).elim λk e=>(by decide:∀k:Nat,k<8->(40+(k:Int))∈bU) k (by have:=(g.rM t m).1.2;lia)|>λh=>e▸h
theorem de{l:List Int}{a:Int}:ix (l.map RM) (.int a)=ix l a/\(RM a∈l.map .int↔a∈l):=⟨lU λy _ e=>cj _ _ e,mem_map λy _ e=>cj _ _ e⟩
theorem sT{l:List QI}{x:QI}{j:Nat}(m:x∉l)(e:j=l.length+1):bX (cy 1 l) x (.d (.int j))=cy 1 (l++[x]):=by(refine aa e ?_;rewrite [RO]);exact we m
theorem LX{l:List (QI×W)}{x:QI}{w:W}:a5 (bX l x w) x=some w:=by
 induction l with
 |nil=>exact dE.trans (QR rfl)
 |cons p l ih=>
  refine aa pM ?_;by_cases e:p.1=x
  ·refine aa (QR e) ?_;exact dE.trans (QR rfl)
  ·exact aa (QP e) (aa dE (aa (QP e) (aa ih rfl)))
section
variable{a b c d:List QI}{r:QI}
theorem Gi:(λu=>if u=35 then cN a b c d 35++[r] else cN a b c d u)=cN (a++[r]) b c d:=funext λu=>by by_cases e:u=35<;>simp [cN,e]
theorem Gl:(λu=>if u=1 then cN a b c d 1++[r] else cN a b c d u)=cN a (b++[r]) c d:=funext λu=>by by_cases e:u=1<;>simp [cN,e]
theorem Gj:(λu=>if u=27 then cN a b c d 27++[r] else cN a b c d u)=cN a b (c++[r]) d:=funext λu=>by by_cases e:u=27<;>simp [cN,e]
theorem Gk:(λu=>if u=10 then cN a b c d 10++[r] else cN a b c d u)=cN a b c (d++[r]):=funext λu=>by by_cases e:u=10<;>simp [cN,e]
end
theorem pG(g:GS F π u S C){tx:List Str}{bl:List QI}{as:List Int}(ht:∀x∈C.texts,ix tx x=ix C.texts x)(hb:∀d∈C.aH,ix bl d=ix C.aH d)(ha:∀a∈S.aI,ix as a=ix S.aI a):
  S.aI.map (ja tx)=S.aI.map (ja C.texts)/\S.refs.map (r1 F as tx)=S.refs.map (r1 F S.aI C.texts)/\S.specs.map (fB bl)=S.specs.map (fB C.aH)/\S.members.map (eW tx bl)=S.members.map (eW C.texts C.aH):=
 ⟨RX λa m=>by unfold ja;exact aa (ht _ (g.aM a m).2) rfl,RX λt m=>by unfold r1;exact aa (ht _ (g.rM t m).2.2) (aa (ha _ (g.rM t m).2.1) rfl),
  RX λd m=>by unfold fB;exact aa (hb _ (g.sB d m)) rfl,RX λm h=>by unfold eW;exact aa (ht _ (g.mB m h).1) (aa (hb _ (g.mB m h).2) rfl)⟩
def Ct.aQ(C:Ct)(a:Int):Ct:=⟨C.ks,aT C.texts (eB a),C.aH,aT C.tabs 35⟩
theorem LS.Eb{a:Int}(m:a∉S.aI):S.aQ a={S with aI:=S.aI++[a]}:=by unfold LS.aQ aT;exact aa (QP m) rfl
theorem LS.yA{a:Int}(m:a∈S.aI):S.aQ a=S:=by unfold LS.aQ aT;exact aa (QR m) rfl
theorem GS.aQ{a:Int}(h:dy a)(g:GS F π u S C):GS F π u (S.aQ a) (C.aQ a):=
 {g with
  aN:=jx g.aN
  aM:=gU (λb m=>⟨(g.aM b m).1,bV (g.aM b m).2⟩) ⟨h,jy⟩
  rM:=λt m=>⟨(g.rM t m).1,bV (g.rM t m).2.1,bV (g.rM t m).2.2⟩
  mB:=λx m=>⟨bV (g.mB x m).1,(g.mB x m).2⟩
  tN:=jx g.tN
  tM:=gU g.tM (by rcases h with rfl|rfl|rfl<;>simp [rG,eB])
  gN:=jx g.gN
  gM:=gU g.gM (.head _)
  jo:=uI
  g1:=λh=>g.g1 λq=>h (bV q)
  iA:=λh=>g.iA λq=>h (bV q)
  jq:=λh=>g.jq λq=>h (bV q)}
theorem JU{a:Int}(m:a∉S.aI)(g:GS F π u S C):{bW ((mk F L S C).k4 (eB a)) 35 (ja C.texts a) with mq:=S.aI.map .int++[.int a]}=mk F L (S.aQ a) (C.aQ a):=by
 have r:=pG g (tx:=aT C.texts (eB a)) (as:=S.aI++[a]) (λx m=>lV m) (λ_ _=>rfl) λa m=>xq m
 have e:dA F {S with aI:=S.aI++[a]} (aT C.texts (eB a)) C.aH=λu=>if u=35 then dA F S C.texts C.aH 35++[ja C.texts a] else dA F S C.texts C.aH u:=by
  refine Wl ?_ Gi.symm;refine (?_:cN ((S.aI++[a]).map _) _ _ _=_);have e:ja (aT C.texts (eB a)) a=ja C.texts a:=QQ (λk:Nat=>RC [.int 1,.int 0,.int 0,.int 0,.int 0,.int 0,.int k,.int 0,.int 0]) oO;exact aa Rq (aa r.1 (aa r.2.1 (aa r.2.2.2 (aa Th (aa e rfl)))))
 refine aa (LS.Eb m) ?_;unfold mk Ct.aQ;refine aa e (aa Rq ?_);rfl
theorem Nv{A:Ab}{x:QI}{k:Nat}{w:W}(m:x∉A.mq)(e:k=A.mq.length+1)(q:Q w (hc F {A with mq:=A.mq++[x]} b)):Q w ⟨upd (hc F A b).s 37 (some (.aj 1 (bX (cy 1 A.mq) x (.d (.int k))))),(hc F A b).f,(hc F A b).g⟩:=by
 refine aa (sT m e) ?_;exact q
theorem pV{o:Option W}{w:W}(e:o=some w):(λb:Bool=>!b) o.isSome=false:=by refine aa e ?_;rfl
theorem nu{o:Option W}(e:o=none):(λb:Bool=>!b) o.isSome=true:=by refine aa e ?_;rfl
include hB
theorem JC{a:Int}(h:dy a)(q:Q (.d .none) (hc F (mk F L S C) b)):aq B (n+1) "need_asm" [.s 15,.d (.int a)] (hc F (mk F L S C) b) Q Z:=by
 rcases h with rfl|rfl|rfl<;>exact .df hB 36 rfl rfl ⟨.t 0,rfl,q⟩
theorem Ea{a:Int}(h:dy a)(g:GS F π u S C)(q:∀C':Ct,C'.ks=C.ks->GS F π u (S.aQ a) C'->Q (.d (.int (1+ix S.aI a:Nat))) (hc F (mk F L (S.aQ a) C') b)):aq B (n+2) "asm_ref_row" [.s 21,.d (.int a)] (hc F (mk F L S C) b) Q Z:=by
 refine .df hB 45 rfl rfl ?_;have la:∀{l:List QI},l.length=S.aI.length->l.length+1<ah:=λe=>QO (QU (e▸g.as)) (by decide+kernel);by_cases m:a∈S.aI
 ·have m':=de.2.mpr m
  refine Br.no (pV (lJ m')) ?_;refine Wo.cI (lJ m') ?_;have q:=q C rfl ((LS.yA m).symm▸g);rw [LS.yA m,←de.1] at q;exact q
 ·have m':=λq=>m (de.2.mp q)
  refine Br.yes (nu (ng m')) ?_;refine Gd.of rfl (JC hB h ?_);refine ⟨_,ta,?_⟩;refine Wo.at (x:=W.d (.str (eB a))) (by rcases h with rfl|rfl|rfl<;>rfl) ?_;refine Gd.of rfl (vt hB (QO (QU g.tx) (by decide+kernel)) ?_);refine ⟨_,tc,?_⟩;refine Gd.of rfl (uH hB (λt=>QQ (W3 _) (g.jo t)) (QO g.tb (by decide+kernel)) ?_ ?_)
  ·exact la (QX _)
  refine Gd.lim (by refine aa nh ?_;exact Rh (la (QX _))) ?_;refine Wo.cI LX ?_;refine Nv (A:=bW ((mk F L S C).k4 (eB a)) 35 (ja C.texts a)) m' ((QQ TX (QX _)).trans (QQ TX (QX _).symm)) ?_;have e:(((mk F L S C).k4 (eB a)).tab 35).length+1=1+ix S.aI a:=by(refine aa (kb m) ?_;rewrite [RO]);exact QQ (1+·) (QX _)
  refine aa e ?_;exact (QQ (λA=>Q (.d (.int (1+ix S.aI a:Nat))) (hc F A b)) (JU m g)).mpr (q _ rfl (g.aQ h))
end
def xI(t:Int)(l:List Int):Nat->Option Nat:=l.rec (λ_=>none) λx _ r k=>if x=t then some k else r (k+1)
theorem Dd{α:Type}{g:α->QI}{T:W->Ro->(Ro->Prop)->Prop}{body:Ro->Hs->Kw->Prop}{K:Kw}{h:Hs}(J:List α->Nat->Ro->Prop)(fin:∀i ρ,J [] i ρ->Sb ρ (qN K h))
  (step:∀x l i ρ,(∀ρ,J l (i+1) ρ->bI gF T body K (oq (i+1) (l.map g)) ρ h)->J (x::l) i ρ->Sb ρ (tN T (.d (.tuple [.int i,g x])) body (bI gF T body K (oq (i+1) (l.map g))) K h)):∀l i ρ,J l i ρ->bI gF T body K (oq i (l.map g)) ρ h
 |[],i,ρ,j=>⟨trivial,fin i ρ j⟩
 |x::l,i,ρ,j=>⟨trivial,step x l i ρ (Dd J fin step l (i+1)) j⟩
theorem Nq{i j:Int}(h:(decide (0<j)&&decide (j<1000000000))=true):yr .FloorDiv (.d (.int i)) (.d (.int j))=some (.int (i.fdiv j)):=by
 refine (?_:(aR (decide (0<j)&&decide (j<1000000000)) (some (i.fdiv j))).map RM=_);refine aa h ?_;rfl
theorem AW{i j:Int}(a:bE i=true)(b:bE j=true):yr .Mult (.d (.int i)) (.d (.int j))=some (.int (i*j)):=by
 refine (?_:(aR (bE i&&bE j) (some (i*j))).map RM=_);refine aa a (aa b ?_);rfl
theorem Ja{r k t:Nat}(h:t<2^k):WH (r*2^k) t=(r*2^k+t:Nat):=by
 have e:(r*2^k)=((2^k*r:Nat):Int):=by rewrite [Int.natCast_mul,Int.natCast_pow,Int.mul_comm];rfl
 have o:∀x y:Nat,WH x y=((x|||y:Nat):Int):=λx y=>by
  have h1:¬(0:Int)<=-x -1:=by lia
  have h2:¬(0:Int)<=-y -1:=by lia
  unfold Builtin.bitOr Builtin.bitAnd Builtin.bitNot;simp only [h1,h2,decide_false];have e1:(-(-(x:Int)-1)-1).toNat=x:=by lia
  have e2:(-(-(y:Int)-1)-1).toNat=y:=by lia
  refine aa e1 (aa e2 ?_);lia
 (refine aa e ?_;rewrite [o,←Nat.two_pow_add_eq_or_of_lt h,Nat.mul_comm];rfl)
theorem i9{r:Nat}(h:r<16777216):bE r=true:=Tg.mpr (Rt h (by decide+kernel))
theorem GR{r k:Nat}(hk:k<40)(h:r<16777216):yt .LShift (.int r) (.int k)=some (.int (r*2^k)):=by
 refine (?_:(aR (decide ((0:Int)<=k)&&decide ((k:Int)<40)&&bE r) (some ((r:Int)*2^(k:Int).toNat))).map _=_);refine aa (i9 h) (aa (Rc (R7 k)) (aa (Rc (show(k:Int)<40 by lia)) ?_));rfl
section
variable{B:Bs}{F:Fx}{ks:List X}{wr:List (QI×W)}{rs:List (Option af)}{f':Nat->Int->Option af}{p:HP}{n:Nat}{Q:W->HP->Prop}{Z:QI->QI->HP->Prop}(hB:aJ B)
include hB
theorem AV{r:Nat}(h:r<16777216)(q:Q (.d .none) p):aq B (n+1) "need_row" [.d (.int r)] p Q Z:=.df hB 38 rfl rfl (Br.ib (Wd.mpr (R5.mpr h)) q)
theorem DE{c t r k j:Nat}{m:List Int}(e:a5 [(.int 0,.d (.tuple [.int 2,.tuple [.int 2,.int 1,.int 27]])),(.int 1,.d (.tuple [.int 2,.tuple [.int 4,.int 8,.int 23]])),(.int 2,.d (.tuple [.int 3,.tuple [.int 2,.int 1,.int (-1),.int 6,.int 27]])),(.int 3,.d (.tuple [.int 1,.tuple [.int 20,.int 23]])),(.int 4,.d (.tuple [.int 1,.tuple [.int 6,.int 10]])),(.int 5,.d (.tuple [.int 2,.tuple [.int 0,.int (-1),.int 35,.int 1]])),(.int 6,.d (.tuple [.int 1,.tuple [.int 2,.int 6]]))] (.int c)=some (.d (.tuple [.int k,.tuple (m.map .int)])))
  (f1:xI t m 0=some j) (hk:k<40) (hj:j<2^k) (h:r<16777216) (q:Q (.d (.int (r*2^k+j:Nat))) (kH F ks wr rs f')):aq B (n+2) "make_coded" [.d (.int c),.d (.int t),.d (.int r)] (kH F ks wr rs f') Q Z:=by
 refine .df hB 39 rfl rfl ?_;refine Gd.of rfl (AV hB h ?_);refine Wo.cI e ?_;refine Dd (λl i ρ=>xI t l i=some j/\bz [("table",.d (.int t)),("row",.d (.int r)),("pair",.d (.tuple [.int k,.tuple (m.map .int)]))] ρ) ?_ ?_ m 0 _ ?_
 ·exact λi ρ z=>nomatch z.1
 ·intro x l i ρ ih z
  refine ⟨_,z.2,?_⟩;have f:=z.1;by_cases e:x=t
  ·obtain rfl:i=j:=QK ((QR e).symm.trans f)
   refine Br.ey e ?_;exact Wo.of (GR hk h) ((QQ (λi=>Q (.d (.int i)) (kH F ks wr rs f')) (Ja hj)).mpr q)
  ·exact Br.en e (ih _ ⟨(QP e).symm.trans f,rfl,rfl,rfl,trivial⟩)
 ·exact ⟨f1,rfl,rfl,rfl,trivial⟩
theorem qj{r t:Nat}(ht:t<40)(h:r<16777216)(q:Q (.d (.int (t*16777216+r:Nat))) p):aq B (n+2) "make_token" [.d (.int t),.d (.int r)] p Q Z:=by
 refine .df hB 40 rfl rfl ?_;refine Gd.of rfl (AV hB h ?_);have q':=q;exact Wo.of (AW (i9 (Rt ht (by decide))) rfl) (Gd.of rfl q')
theorem GG{k:Nat}(q:Q (.d (.tuple [.int (k/16777216:Nat),.int (k%16777216:Nat)])) p):aq B (n+1) "split_token" [.d (.int k)] p Q Z:=
 have q':Q (.d (.tuple [.int ((k:Int).fdiv 16777216),.int ((k:Int).fmod 16777216)])) p:=by refine aa (TN _ (by decide)) (aa (S8 _ (by decide)) ?_);exact q
 .df hB 41 rfl rfl q'
end
theorem Wo.aF{h:Hs}{v w:W}{c x:String}{l:Ro}{Q:W->Prop}(e:h.get v=some (.obj c l))(g:look l x=some w)(q:Q w):Wo (uA h v x) Q:=by
 unfold uA;refine aa e ?_;exact Wo.of g q
structure aE(F:Fx):Prop where
 cnt:∀t,40<=t/\t<=50->(F.ti t).count<=2
 aQ:∀t,40<=t/\t<=47->dy (F.ti t).aQ
 name:∀t,40<=t/\t<=50->(F.ti t).name=QJ "L"\/(F.ti t).name=QJ "M"\/(F.ti t).name=QJ "L`1"
 bB:∀t,40<=t/\t<=50->(F.ti t).bB=0\/(F.ti t).bB=1
 pq:F.ti 48=⟨2,QJ "L",0,0,0⟩
 rU:F.ti 49=⟨2,QJ "L",1,0,0⟩
 rT:F.ti 50=⟨2,QJ "M",0,1,1⟩
noncomputable def Qv:List Str:=[QJ "T",QJ "U"]
section
variable{B:Bs}{F:Fx}{A:Ab}{b:QI}{t:Int}{n:Nat}{Q:W->HP->Prop}{Z:QI->QI->HP->Prop}{tl:List af}
theorem qF(h:40<=t/\t<=50):cz t=true:=by unfold cz;refine aa (Rc h.1) (aa (Rc h.2) ?_);rfl
theorem ty_cell(h:40<=t/\t<=50):Hs.get ⟨hc F A b,tl⟩ (.f 0 t)=some (.obj "TypeDef" (fU F t)):=by
 refine (?_:aR (cz t) _=_);refine aa (qF h) ?_;rfl
theorem IS(h:40<=t/\t<=50):Hs.get ⟨hc F A b,tl⟩ (.f 1 t)=some (.lst (dW ([sS "T",sS "U"].take (F.ti t).count))):=by
 refine (?_:aR (cz t) _=_);refine aa (qF h) ?_;rfl
theorem jZ{Q:Nat->Prop}(K:aE F)(h:40<=t/\t<=50)(q:Q (F.ti t).count):Wo (lO ⟨hc F A b,tl⟩ (.f 1 t)) Q:=by
 have e:(dW ([sS "T",sS "U"].take (F.ti t).count)).length=(F.ti t).count:=by refine aa cp (aa Vy ?_);exact ZK (K.cnt t h)
 exact Wo.tE (IS h) (e.symm▸QO (K.cnt t h) (by decide+kernel:2<ah)) (e.symm▸q)
theorem jP(h:40<=t/\t<=50){Q:W->Prop}(q:Q (.f 0 t)):Wo (bZ (Q4 40 (.d .none)++Internal.dz.map λt=>W.f 0 t) t) Q:=by
 obtain ⟨k,rfl⟩:=Ue h.1;refine Wo.of ?_ q;have hk:k<11:=R5.mp (SE (Wy (show(40:Int)+k<=40+10 from h.2)) (by decide))
 have key:∀k:Nat,k<11->(Q4 40 (.d .none)++Internal.dz.map λt=>W.f 0 t)[40+k]?=some (.f 0 (40+k)):=λk hk=>by
  (refine aa (TM (Ra 40 k)) (aa TP ?_);rewrite [Sx])
  exact (by decide:∀k:Nat,k<11->Internal.dz[k]?=some (40+(k:Int))) k hk|>λe=>RJ.trans (QQ (U0 _) e)
 exact at_of (Rt (Tv hk 40) (by decide+kernel)) (key k hk)
theorem bF(h:40<=t/\t<=47):40<=t/\t<=50:=⟨h.1,Ti h.2 (by decide)⟩
theorem JE(K:aE F)(h:40<=t/\t<=50):Tr 0 (.str (F.ti t).name):=Tr.str (by rcases K.name t h with e|e|e<;>refine aa e ?_<;>decide+kernel)
theorem xm(K:aE F)(h:40<=t/\t<=50):Tr 1 (F.ti t).key:=Tr.tup (λx m=>by
 rcases QZ.mp m with rfl|m
 ·exact Tr.int _
 rcases QZ.mp m with rfl|m
 ·exact JE K h
 ·exact QW.mp m▸Tr.int _) (by decide:3<=1000)
variable(hB:aJ B)
include hB
theorem Hf(K:aE F)(h:40<=t/\t<=47)(q:Q (.d (.str (di F t))) (hc F A b)):aq B (n+1) "row_name" [.f 0 t] (hc F A b) Q Z:=by
 refine .df hB 44 rfl rfl ?_;refine Wo.aF (ty_cell (bF h)) rfl ?_;refine jZ K (bF h) ?_;unfold di at q;by_cases e:(F.ti t).count=0
 ·rw [QR e] at q
  refine Br.ey (by refine aa e ?_;rfl) ?_;refine Wo.aF (ty_cell (bF h)) rfl ?_;exact q
 ·rw [QP e] at q
  refine Br.en (λz=>e (T6 z)) ?_;have hc:(F.ti t).count=1\/(F.ti t).count=2:=(tF (K.cnt t (bF h))).resolve_left e;refine Wo.aF (ty_cell (bF h)) rfl ?_;refine Wo.of (x:=.str ((F.ti t).name++QJ "`")) (by rcases K.name t (bF h) with e|e|e<;>refine aa e ?_<;>kernel_rfl) ?_;refine Wo.aF (ty_cell (bF h)) rfl ?_;refine jZ K (bF h) ?_;refine Gd.of (by rcases hc with e|e<;>refine aa e ?_<;>decide+kernel) ?_;refine Wo.of (by rcases hc with e|e<;>rcases K.name t (bF h) with e'|e'|e'<;>refine aa e (aa e' ?_)<;>kernel_rfl) q
end
noncomputable def Qw:List W:=Q4 40 (.d .none)++Internal.dz.map λt=>W.f 0 t
section
variable{F:Fx}{t u:Int}{p l:List Int}
theorem xQ:(∀u∈p,¬iB F t u)->bY F t (p++l)=bY F t l:=p.rec (λ_=>rfl) λx p ih h=>(QP (h x (.head _))).trans (ih λy m=>h y (.tail _ m))
theorem Mu(h:∀u∈l,¬iB F t u):bY F t (p++l)=bY F t p:=p.rec (by have:=xQ (l:=[]) h;rwa [SI] at this) λx p ih=>QQ (λz=>if iB F t x then x else z) ih
theorem tO:Rk (F.ti u).key (F.ti t).key=decide ((F.ti u).key=(F.ti t).key):=tQ 1 _ _ rfl rfl
theorem CP(K:aE F)(h:40<=t/\t<=47):bY F t Internal.dz=bY F t bU:=by
 have no:∀u:Int,(F.ti u).aQ=2->¬iB F t u:=λu e q=>by
  have e2:=cj _ _ (cE q.1).1;rcases K.aQ t h with a|a|a<;>rw [e,a] at e2<;>exact absurd e2 (by decide)
 refine Mu (p:=bU) λu m=>no u ?_;rcases QZ.mp m with rfl|m
 ·exact aa K.pq rfl
 rcases QZ.mp m with rfl|m
 ·exact aa K.rU rfl
 ·exact aa (QW.mp m) (aa K.rT rfl)
noncomputable def l7(F:Fx)(k:QI):List Int->Option Int
 |[]=>none
 |u::l=>if(F.ti u).key=k then some u else l7 F k l
theorem LY{l:List (QI×W)}{k k':QI}{w:W}(h:k'≠k):a5 (l++[(k',w)]) k=a5 l k:=by
 induction l with
 |nil=>exact dE.trans (QP h)
 |cons p l ih=>exact aa Vv (aa dE (aa dE (aa ih rfl)))
theorem Jt{k:QI}:∀{r:List (QI×W)},a5 (l.foldl (λr t=>if(a5 r (F.ti t).key).isSome then r else r++[((F.ti t).key,.d (.int t))]) r) k=(a5 r k).rec ((l7 F k l).map λu=>.d (.int u)) some:=by
 induction l with
 |nil=>intro r;refine (?_:a5 r k=_);cases a5 r k<;>rfl
 |cons u l ih=>
  intro r;refine aa List.foldl_cons (aa ih ?_);by_cases ek:(F.ti u).key=k
  ·have e1:l7 F k (u::l)=some u:=QR ek
   refine aa e1 (a9 ek ?_)
   cases e:a5 r (F.ti u).key with
   |some w=>exact aa (QR (show(some w).isSome=true from rfl)) (aa e rfl)
   |none=>refine aa (QP (show¬none.isSome=true by decide)) (aa (Cu e) ?_);rfl
  ·have e1:l7 F k (u::l)=l7 F k l:=QP ek
   have e2:a5 (if(a5 r (F.ti u).key).isSome=true then r else r++[((F.ti u).key,.d (.int u))]) k=a5 r k:=by
    by_cases e:(a5 r (F.ti u).key).isSome=true
    ·exact aa (QR e) rfl
    ·exact aa (QP e) (aa (LY ek) rfl)
   exact aa e1 (aa e2 rfl)
theorem L9{k:QI}:t∈l->(F.ti t).key=k->∃u p q,l7 F k l=some u/\l=p++u::q/\∀v∈p,(F.ti v).key≠k:=by
 induction l with
 |nil=>exact λm _=>nomatch m
 |cons u l ih=>
  intro m ek;by_cases e:(F.ti u).key=k
  ·exact ⟨u,[],l,QR e,rfl,λ_ m=>nomatch m⟩
  ·obtain ⟨v,p,q,e1,e2,e3⟩:=ih ((QZ.mp m).resolve_left λz=>e (z▸ek)) ek
   exact ⟨v,u::p,q,(QP e).trans e1,QQ _ e2,λw m=>(QZ.mp m).elim (λz=>z▸e) (e3 w)⟩
theorem zp{q:List Int}(e:Internal.dz=p++u::q):u=(p.length+40:Nat):=by
 have h:=(by decide:∀k:Nat,k<11->Internal.dz[k]?=some (40+(k:Int)));have hl:p.length<11:=by have:=QQ Zr e;rw [Q2,UH] at this;exact Wi (Sy (Tw _)) (show 11=p.length+(q.length+1) from this).symm
 have g:=h _ hl;rw [e,TM (Rl _),YX] at g;exact (QK g).trans (Int.add_comm ..)
end
theorem oZ.Qz{b:Bool}{P Q:Prop}(e:b=false)(q:P):oZ false b P Q:=Br.no e q
section
variable{B:Bs}{F:Fx}{A:Ab}{b:QI}{t:Int}{n:Nat}{Q:W->HP->Prop}{Z:QI->QI->HP->Prop}(hB:aJ B)
noncomputable def qJ(F:Fx)(t:Int)(i:Int):Ro:=[("store",.s 15),("asm",.d (.int (F.ti t).aQ)),("name",.d (.str (F.ti t).name)),("count",.d (.int (F.ti t).count)),("tid",.d (.int i))]
structure Qp F A b t k ρ(h:Hs):Prop where
 he:h=⟨hc F A b,[]⟩
 it:∃(p l:List Int)(i:Int),ρ=qJ F t i/\i=(p.length+40:Nat)/\Internal.dz=p++l/\(∀v∈p,¬iB F t v)/\l.length=k
theorem JD{u:Int}(e:l7 F (F.ti t).key Internal.dz=some u):a5 (j4 F Internal.dz) (F.ti t).key=some (.d (.int u)):=Jt.trans (by refine aa e ?_;rfl)
noncomputable def Ss.bd(k:Nat)(s:Ss):Ss:=(Ss.dr k s).casesOn .nil λs _=>s.casesOn (λ_ _=>.nil) (λ_ _=>.nil) (λ_ _ _=>.nil) (λ_ _ _=>.nil) (λ_ _=>.nil) (λ_=>.nil) (λ_=>.nil) .nil (λ_ a _=>a) (λ_ b=>b) (λ_ _ b=>b) (λ_ _ _ b=>b) (λ_ _ b=>b) (λ_ _ _ b=>b) (λ_ _ _=>.nil) .nil λb _ _ _=>b
theorem Ml{i:Int}{K:Kw}(fk:aE F)(h:40<=t/\t<=50)(h5:40<=i/\i<=50)(go:¬iB F t i->K.ay (qJ F t (i+1)++[("t",.f 0 i)]) ⟨hc F A b,[]⟩)(ret:iB F t i->K.ret (.d (.int i)) (hc F A b)):aD (Ss.bd 1 DU.body) (aL B n (qJ F t i) Z) ⟨hc F A b,[]⟩ K:=by
 refine jP h5 ?_;refine Wo.aF (ty_cell h5) rfl ?_;by_cases h0:(F.ti i).bB=0
 ·refine Br.ey (by refine aa h0 ?_;rfl) ?_
  refine Wo.aF (ty_cell h5) rfl ?_;refine Wo.aF (ty_cell h5) rfl ?_;refine Wo.aF (ty_cell h5) rfl ?_;refine jZ fk h5 ?_;refine Gd.ok ((xm fk h5).ok (by decide)) ?_;refine Gd.ok ((xm fk h).ok (by decide)) ?_;by_cases hk:(F.ti i).key=(F.ti t).key
  ·exact Br.oj (tO.trans (Rc hk)) (ret ⟨hk,h0⟩)
  ·exact Br.qQ (tO.trans (Rm hk)) (go λz=>hk z.1)
 ·exact Br.en (λz=>h0 (by lia)) (go λz=>h0 z.2)
include hB
theorem Mk(K:aE F)(h:40<=t/\t<=47)(q:Q (.d (.int (bY F t bU))) (hc F A b)):aq B (n+1) "floor_type" [.s 15,.d (.int (F.ti t).aQ),.d (.str (F.ti t).name),.d (.int (F.ti t).count)] (hc F A b) Q Z:=by
 refine .df hB 37 rfl rfl ?_;obtain ⟨u,p,l,e1,e2,e3⟩:=L9 (A0 (bF h)) rfl;refine Gd.ok ((xm K (bF h)).ok (by decide)) ?_;refine Wo.of (QQ (λo=>aeB (motive:=λ_=>Option W) (some (W.d (.int 0))) some o) (JD e1)) ?_;refine ⟨Qp F A b t,(u::l).length,⟨qJ F t u,⟨rfl,rfl,rfl,rfl,rfl,trivial⟩,rfl,p,_,u,rfl,zp e2,e2,λv m z=>e3 v m z.1,rfl⟩,?_⟩
 ·intro k ρ h' j
  obtain ⟨rfl,p,l,i,rfl,hi,e,no,rfl⟩:=j;have hp:=by have:=QQ Zr e;rw [Q2] at this;exact this.symm
  refine Br.ny (by lia) ?_
  cases l with
  |nil=>
   have h0:¬i<51:=by rewrite [hi,show p.length=11 from hp];decide
   refine Br.h9 h0 ?_;have e0:bY F t bU=0:=(CP K h).symm.trans (e▸xQ no);exact e0▸q
  |cons u l=>
   have hu:=hi.trans (zp e).symm;subst hu;have hl:p.length+(l.length+1)=11:=hp;have h5:40<=i/\i<=50:=hi▸⟨RZ.mpr (Sd 40 _),RZ.mpr (Ri (TZ (Wi (Sy (Tw _)) hl)) 40)⟩;refine Br.lt (SE h5.2 (by decide)) ?_;refine Ml K (bF h) h5 (λz=>?_) λz=>?_
   ·exact ⟨l.length,SU _,qJ F t (i+1),⟨rfl,rfl,rfl,rfl,rfl,trivial⟩,rfl,p++[i],l,i+1,rfl,by refine aa hi (aa Q2 ?_);rfl,by rewrite [Sh];exact e,λv m=>(RL.mp m).elim (no v) λm=>QW.mp m▸z,rfl⟩
   ·have e0:bY F t bU=i:=(CP K h).symm.trans (e▸(xQ no).trans (QR z))
    exact e0▸q
end
section
variable{B:Bs}{F:Fx}{π:QI->Nat->Prop}{u:Nat}{L S:LS}{C:Ct}{b:QI}{t:Int}{n:Nat}{Q:W->HP->Prop}{Z:QI->QI->HP->Prop}(hB:aJ B)
def Ct.typ(C:Ct)(F:Fx)(t:Int):Ct:=⟨C.ks,aT C.texts (di F t),C.aH,aT C.tabs 1⟩
noncomputable def LS.vL(S:LS)(t:Int):LS:={S with refs:=S.refs++[t]}
theorem BI(h:40<=t/\t<=47):t∈bU:=(Ue h.1).elim λk e=>e▸(by decide:∀k:Nat,k<8->(40+(k:Int))∈bU) k (by omega)
theorem GS.typ(h:40<=t/\t<=47)(m:t∉S.refs)(ma:(F.ti t).aQ∈S.aI)(g:GS F π u S C):GS F π u (S.vL t) (C.typ F t):=
 {g with
  aM:=λb m=>⟨(g.aM b m).1,bV (g.aM b m).2⟩
  rN:=S7.mpr ⟨g.rN,RV _ _,λa ha b hb e=>m (by refine a9 (QW.mp hb) (a9 e ?_);exact ha)⟩
  rM:=λv q=>(RL.mp q).elim (λq=>⟨(g.rM v q).1,(g.rM v q).2.1,bV (g.rM v q).2.2⟩) λq=>(QW.mp q).symm▸⟨h,ma,jy⟩
  mB:=λx m=>⟨bV (g.mB x m).1,(g.mB x m).2⟩
  tN:=jx g.tN
  tM:=gU g.tM (RN _ (SM (BI h)))
  gN:=jx g.gN
  gM:=gU g.gM (.tail _ (.head _))
  g1:=uI
  jo:=λh=>g.jo λq=>h (bV q)
  iA:=λh=>g.iA λq=>h (bV q)
  jq:=λh=>g.jq λq=>h (bV q)}
theorem JO(g:GS F π u S C):{bW ((mk F L S C).k4 (di F t)) 1 (r1 F S.aI C.texts t) with mn:=S.refs.map .int++[.int t]}=mk F L (S.vL t) (C.typ F t):=by
 have r:=pG g (tx:=aT C.texts (di F t)) (λx m=>lV m) (λ_ _=>rfl) λa m=>rfl
 have e:dA F (S.vL t) (aT C.texts (di F t)) C.aH=λu=>if u=1 then dA F S C.texts C.aH 1++[r1 F S.aI C.texts t] else dA F S C.texts C.aH u:=by
  refine Wl ?_ Gl.symm;have e:r1 F S.aI (aT C.texts (di F t)) t=r1 F S.aI C.texts t:=QQ (λk:Nat=>RC [.int ((1+ix S.aI (F.ti t).aQ)*4+2:Nat),.int k,.int 0]) oO;refine (?_:cN (S.aI.map _) ((S.refs++[t]).map (r1 F S.aI _)) (S.specs.map _) (S.members.map _)=_);exact aa Rq (aa Th (aa e (aa r.2.1 (aa r.1 (aa r.2.2.2 rfl)))))
 unfold mk Ct.typ;refine aa e ?_;refine aa Rq ?_;rfl
theorem Nt{A:Ab}{row row' x:QI}{k:Nat}{P:HP->Prop}(e:row'=row)(m:x∉A.mn)(ek:k=A.mn.length+1)(q:P (hc F {bW A 1 row with mn:=A.mn++[x]} b)):
  P ⟨upd (hc F (bW A 1 row') b).s 38 (some (.aj 1 (bX (cy 1 A.mn) x (.d (.int k))))),(hc F (bW A 1 row') b).f,(hc F (bW A 1 row') b).g⟩:=by
 subst e;refine aa (sT m ek) ?_;exact q
theorem tv{k:Nat}(h:k<=20):k+1<ah:=QO (QU h) (by decide+kernel)
include hB
theorem FN{K:Kw}(fk:aE F)(h:40<=t/\t<=47)(m:t∉S.refs)(g:GS F π u S C)(q:∀C':Ct,C'.ks=C.ks->GS F π u (S.ref F t) C'->∀w,K.ay [("p",.s 21),("tid",.d (.int t)),("t",.f 0 t),("scope",w)] ⟨hc F (mk F L (S.ref F t) C') b,[]⟩):
  aD (Ss.dr 4 (Ss.bd 1 oC.body)) (aL B (n+3) [("p",.s 21),("tid",.d (.int t)),("t",.f 0 t)] Z) ⟨hc F (mk F L S C) b,[]⟩ K:=by
 have m':=λq=>m (de.2.mp q);have ha:=fk.aQ t h;have i4:1+ix S.aI (F.ti t).aQ<16777216:=QO (Rj (QN fJ g.as) 1) (by decide);have er:∀tx,RC [.int ((1+ix S.aI (F.ti t).aQ)*4+2:Nat),.int (ix tx (di F t):Nat),.int 0]=r1 F (S.aQ (F.ti t).aQ).aI tx t:=λtx=>QQ (λk:Nat=>RC [.int ((1+k)*4+2:Nat),.int (ix tx (di F t):Nat),.int 0]) oO.symm;refine Wo.aF (ty_cell (bF h)) rfl ?_;refine Gd.of rfl (Ea hB ha g λC1 k1 g1=>?_);refine Gd.of rfl (DE (m:=[0,-1,35,1]) hB rfl rfl (by decide) (by decide) i4 ?_);refine ⟨_,tc,?_⟩;refine ⟨_,ta,?_⟩;refine Gd.of rfl (Hf hB fk h ?_);refine Gd.of rfl (vt hB (tv (QN g1.tx (by decide))) ?_);refine Gd.of rfl (uH hB (λt=>QQ (W3 _) (g1.g1 t)) (QO g1.tb (by decide+kernel)) ?_ ?_)
 ·exact (QX (r1 F (S.aQ (F.ti t).aQ).aI C1.texts)).symm▸tv (QN g1.rf (by decide))
 refine Gd.lim (by refine aa nh ?_;exact Rh ((QX _).symm▸tv (QN g1.rf (by decide)))) ?_
 exact Nt (P:=λp=>K.ay [("p",.s 21),("tid",.d (.int t)),("t",.f 0 t),("scope",.d (.int ((1+ix S.aI (F.ti t).aQ)*2^2+2:Nat)))] ⟨p,[]⟩) (er _) m' ((QQ TX (QX _)).trans (QQ TX (QX _).symm))
  ((QQ (λA=>K.ay _ ⟨hc F A b,[]⟩) (JO g1)).mpr (q (C1.typ F t) k1 (g1.typ h m jy) _))
end
def rP(t:Int):Prop:=(40<=t/\t<=50)\/t=39\/t=0\/t=51\/t=-1
section
variable{B:Bs}{F:Fx}{π:QI->Nat->Prop}{u:Nat}{L S:LS}{C:Ct}{b:QI}{t:Int}{n:Nat}{Q:W->HP->Prop}{Z:QI->QI->HP->Prop}(hB:aJ B)
theorem Hd(h:47<t)(h':t<=50):∃k:Nat,t=46+k/\k<16777216/\a5 (iD [(48,2),(49,3),(50,4)]) (.int t)=some (.d (.int k)):=by
 obtain rfl|rfl|rfl:t=48\/t=49\/t=50:=(Uo h').elim (λa=>(Uo (Sj a)).elim (λa=>.inl (Int.le_antisymm (Sj a) h)) λe=>.inr (.inl e)) λe=>.inr (.inr e)
 ·exact ⟨2,rfl,by decide,rfl⟩
 ·exact ⟨3,rfl,by decide,rfl⟩
 ·exact ⟨4,rfl,by decide,rfl⟩
theorem He(h:t≠48/\t≠49/\t≠50):a5 (iD [(48,2),(49,3),(50,4)]) (.int t)=none:=tW λp m=>by
 rcases QZ.mp m with rfl|m
 ·exact h.1.symm
 rcases QZ.mp m with rfl|m
 ·exact h.2.1.symm
 ·exact QW.mp m▸h.2.2.symm
theorem Co{o:Option W}{w:W}(e:o=some w):o.isSome=true:=by refine aa e ?_;rfl
theorem n5{o:Option W}(e:o=none):o.isSome=false:=by refine aa e ?_;rfl
def eE(F:Fx)(π:QI->Nat->Prop)(u:Nat)(L:LS)(ks:List X)(b:QI)(P:HP->Prop)(S:LS):Prop:=∀C':Ct,C'.ks=ks->GS F π u S C'->P (hc F (mk F L S C') b)
def Runs{α:Type}(F:Fx)(π:QI->Nat->Prop)(u:Nat)(L:LS)(ks:List X)(b:QI)(Q:α->HP->Prop)(Z:QI->QI->HP->Prop)(g:Except (QI×QI) α×LS):Prop:=Run g (λa S=>eE F π u L ks b (Q a) S) λp S=>eE F π u L ks b (Z p.1 p.2) S
theorem Cp(fk:aE F)(h:40<=t/\t<=50):(!(Tn (F.ti t).name (QJ "`") 0 (F.ti t).name.length 1).isEmpty)=decide (1<(F.ti t).name.length):=by
 rcases fk.name t h with e|e|e<;>refine aa e ?_<;>decide+kernel
theorem FP{i:Int}(h:i=39\/i=0\/i=51\/i=-1){K:Kw}{A:Ab}(q:Z (sS "type") (.int i) (hc F A b)):aD (Ss.bd 1 oC.body) (aL B n [("p",.s 21),("tid",.d (.int i))] Z) ⟨hc F A b,[]⟩ K:=by
 rcases h with rfl|rfl|rfl|rfl<;>exact q
include hB
theorem zh(m:t∈S.refs)(g:GS F π u S C)(q:Q (.d (.int (16777217+ix S.refs t:Nat))) (hc F (mk F L S C) b)){ρ:Ro}:aD (Ss.dr 2 oC.body) (aL B (n+2) (("p",.s 21)::("tid",.d (.int t))::ρ) Z) ⟨hc F (mk F L S C) b,[]⟩ (bO Q):=by
 have e:1*16777216+(1+ix (S.refs.map RM) (.int t))=16777217+ix S.refs t:=by(refine aa de.1 ?_;rewrite [←SO];rfl)
 have l:1+ix (S.refs.map RM) (.int t)<16777216:=QO (Rj (de.1▸QN fJ g.rf) 1) (by decide);refine Wo.cI (lJ (de.2.mpr m)) ?_;exact Gd.of rfl (qj hB (by decide) l ((QQ (λk:Nat=>Q (.d (.int k)) (hc F (mk F L S C) b)) e).mpr q))
theorem FO{K:Kw}(fk:aE F)(h:40<=t/\t<=47){A:Ab}(q0:(F.ti t).bB≠0->Z (sS "home") (.int t) (hc F A b))(q1:(F.ti t).bB=0->bY F t bU≠t\/1<(F.ti t).name.length->Z (sS "twice") (.int t) (hc F A b))
  (q:(F.ti t).bB=0->¬(bY F t bU≠t\/1<(F.ti t).name.length)->aD (Ss.dr 4 (Ss.bd 1 oC.body)) (aL B (n+3) [("p",.s 21),("tid",.d (.int t)),("t",.f 0 t)] Z) ⟨hc F A b,[]⟩ K):aD (Ss.bd 1 oC.body) (aL B (n+3) [("p",.s 21),("tid",.d (.int t))] Z) ⟨hc F A b,[]⟩ K:=by
 refine Br.ib (Wd.mpr (Wj (by decide) h.1)) ?_;refine Br.ib (Wd.mpr (SE h.2 (by decide))) ?_;refine jP (bF h) ?_;refine jP (bF h) ?_;refine Wo.aF (ty_cell (bF h)) rfl ?_;by_cases h0:(F.ti t).bB=0
 ·refine Br.h9 (show¬0<40*(F.ti t).bB by refine aa h0 ?_;decide) ?_
  refine Wo.aF (ty_cell (bF h)) rfl ?_;refine Wo.aF (ty_cell (bF h)) rfl ?_;refine Wo.aF (ty_cell (bF h)) rfl ?_;refine jZ fk (bF h) ?_;refine Gd.of rfl (Mk hB fk h ?_);by_cases hf:bY F t bU=t
  ·refine Br.nn hf ?_
   refine Wo.aF (ty_cell (bF h)) rfl ?_;by_cases hn:1<(F.ti t).name.length
   ·exact Br.yes ((Cp fk (bF h)).trans (Rc hn)) (q1 h0 (.inr hn))
   ·exact Br.no ((Cp fk (bF h)).trans (Rm hn)) (q h0 λz=>z.elim (λz=>z hf) hn)
  ·exact Br.ny hf (q1 h0 (.inl hf))
 ·exact Br.lt (show 0<40*(F.ti t).bB by refine aa ((fk.bB t (bF h)).resolve_left h0) ?_;decide) (q0 h0)
theorem pd(fk:aE F)(h:rP t)(g:GS F π u S C){ks:List X}(hk:C.ks=ks)(q:Runs F π u L ks b (λk:Int=>Q (.d (.int k))) Z (bp F t S)):aq B (n+4) "type_token" [.s 21,.d (.int t)] (hc F (mk F L S C) b) Q Z:=by
 refine .df hB 46 rfl rfl ?_;by_cases h8:47<t/\t<=50
 ·obtain ⟨k,rfl,h16,e⟩:=Hd h8.1 h8.2
  have ed:bp F (46+k) S=(.ok (2*16777216+k:Nat),S):=(QP λz=>z ⟨Ti (by decide) (abf h8.1),h8.2⟩).trans ((QR h8.1).trans (QQ (λk:Int=>(agh k,S)) (by lia)));rw [ed] at q;refine Br.yes (Co e) ?_;refine Wo.cI e ?_;exact Gd.of rfl (qj hB (by decide) h16 (q C hk g))
 refine Br.no (n5 (He (by lia))) ?_;by_cases m:t∈S.refs
 ·have h7:=(g.rM t m).1
  have ed:bp F t S=(.ok (16777217+ix S.refs t:Nat),S):=(QP λz=>z (bF h7)).trans ((QP (Tf.mpr h7.2)).trans (QR m));rw [ed] at q;refine Br.no (pV (lJ (de.2.mpr m))) ?_;exact zh hB m g (q C hk g)
 refine Br.yes (nu (ng λq=>m (de.2.mp q))) ?_;by_cases h5:40<=t/\t<=50
 ·have h7:40<=t/\t<=47:=⟨h5.1,Tf.mp λa=>h8 ⟨a,h5.2⟩⟩
  unfold bp at q;rw [QP λz=>z h5,QP (Tf.mpr h7.2),QP m] at q;refine FO hB fk h7 (λz=>?_) (λz z'=>?_) λz z'=>?_
  ·rw [QR z] at q
   exact q C hk g
  ·rw [QP λn=>n z,QR z'] at q
   exact q C hk g
  ·rw [QP λn=>n z,QP z'] at q
   refine FN hB fk h7 m g λC' k' g' w=>?_;have mm:t∈(S.ref F t).refs:=RN _ (.head _);refine zh hB mm g' ?_;have e:ix (S.ref F t).refs t=ix S.refs t:=(jk m).trans (kb m).symm;exact e.symm▸q C' (k'.trans hk) g'
 ·have ed:bp F t S=(.error (bad "type" t),S):=QR h5
  rw [ed] at q;exact FP (h.resolve_left h5) (q C hk g)
end
noncomputable def X.fu:X->Nat
 |.arr x=>x.fu+1
 |.c1 _ a=>a.fu+2
 |.c2 _ a b=>max a.fu b.fu+2
 |_=>0
section
variable{B:Bs}{F:Fx}{π:QI->Nat->Prop}{u:Nat}{L S:LS}{C:Ct}{b:QI}{t:Int}{n:Nat}{ks:List X}{Q:W->HP->Prop}{Z:QI->QI->HP->Prop}(hB:aJ B)
theorem ne_of_lt'{i:Int}{k:Nat}(h:i<16)(h':16<=k):i≠k:=λe=>by lia
theorem vV{k:Nat}(h:16<=k):a5 (iD [(0,1),(1,2),(2,3),(3,4),(4,5),(5,6),(6,7),(7,8),(8,9),(9,10),(10,11),(11,24),(12,28),(13,14)]) (.int k)=none:=tW λp m=>ne_of_lt' (Q0 (Rp.mp (show([(0,1),(1,2),(2,3),(3,4),(4,5),(5,6),(6,7),(7,8),(8,9),(9,10),(10,11),(11,24),(12,28),(13,14)]:List (Int×Int)).all (λp=>decide (p.1<16))=true by decide) p m)) h
theorem xl{x:X}(nx:x.np):16<=aw ks x:=gQ nx▸Ra ..
theorem i6{k:Nat}{d:QI}(t:Tr k d):Tr (k+1) (.tuple [d]):=Tr.tup (λx m=>QW.mp m▸t) (by decide:1<=1000)
theorem cv{k:Nat}{d e:QI}(t:Tr k d)(t':Tr k e):Tr (k+1) (.tuple [d,e]):=Tr.tup (λx m=>(QZ.mp m).elim (λz=>z▸t) λm=>QW.mp m▸t') (by decide:2<=1000)
theorem mQ{k:Nat}{i j l:Int}{d:QI}(t:Tr k d):Tr (k+1) (.tuple [.int i,.int j,.int l,d]):=Tr.tup (λx m=>by
 have z:∀i,Tr k (.int i):=λi=>(Tr.int i).more (Rr _);rcases QZ.mp m with rfl|m
 ·exact z _
 rcases QZ.mp m with rfl|m
 ·exact z _
 rcases QZ.mp m with rfl|m
 ·exact z _
 ·exact QW.mp m▸t) (by decide:4<=1000)
theorem sM{k:Nat}{d:QI}(t:Tr k d)(h:k<=30):aR (aP d) (some d)=some d:=by refine aa (t.ok h) ?_;rfl
include hB
theorem uF(fk:aE F){A:Ab}(h:40<=t/\t<=50){s:Int}(hs:tg F t=s){l:List QI}(hc:l.length=(F.ti t).count)(q:Q (.d .none) (Internal.hc F A b)):aq B (n+1) "need_as_defined" [.s 15,.d (.tuple [.int s,.int t,.tuple l])] (Internal.hc F A b) Q Z:=by
 have hh:((F.ti t).struct=0/\s=2)\/((F.ti t).struct≠0/\s=3):=by unfold tg at hs;by_cases e:(F.ti t).struct=0<;>simp [e] at hs<;>simp [e,hs]
 rcases hh with⟨e,rfl⟩|⟨e,rfl⟩
 ·refine .df hB 35 rfl rfl ?_
  refine jP h ?_;refine Wo.aF (ty_cell h) rfl ?_;refine jZ fk h ?_;refine Br.nn (QQ (λk:Nat=>(k:Int)) hc) ?_;refine Wo.aF (ty_cell h) rfl ?_;refine Br.en (by refine aa (QR e) ?_;decide) ?_;refine Wo.aF (ty_cell h) rfl ?_;exact Br.no (by refine aa (QR e) ?_;rfl) q
 ·refine .df hB 35 rfl rfl ?_
  refine jP h ?_;refine Wo.aF (ty_cell h) rfl ?_;refine jZ fk h ?_;refine Br.nn (QQ (λk:Nat=>(k:Int)) hc) ?_;refine Wo.aF (ty_cell h) rfl ?_;refine Br.ey (QP e) ?_;exact Br.no (by refine aa (QP e) ?_;rfl) q
def iN(k:Nat)(F:Fx)(π:QI->Nat->Prop)(u:Nat)(L:LS)(ks:List X)(b:QI)(Q:QI->HP->Prop)(Z:QI->QI->HP->Prop)(g:Except (QI×QI) QI×LS):Prop:=Run g (λd S=>Tr k d->eE F π u L ks b (Q d) S) λp S=>eE F π u L ks b (Z p.1 p.2) S
def kK(B:Bs)(F:Fx)(π:QI->Nat->Prop)(u:Nat)(L:LS)(ks:List X)(b:QI)(m:Nat)(x:X):Prop:=∀{S:LS}{C:Ct}{Q:W->HP->Prop}{Z:QI->QI->HP->Prop},GS F π u S C->C.ks=ks->iN (x.fu+1) F π u L ks b (λd=>Q (.d d)) Z (dZ F x S)->aq B m "sig_tree" [.s 21,.d (.int (aw ks x))] (hc F (mk F L S C) b) Q Z
noncomputable def sU(s t:Int)(l:List QI)(e:Int):Ro:=[("p",.s 21),("row",.d (.tuple [.int s,.int t,.tuple l])),("element",.d (.int e))]
theorem wg{p:HP}{s:Int}{l:List QI}{t:Int}(h:aD (Ss.dr 2 q5.body) (aL B n (sU s t l (elt F t)) Z) ⟨p,[]⟩ (bO Q))(hs:tg F t=s):aq B (n+1) "named_tree" [.s 21,.d (.tuple [.int s,.int t,.tuple l])] p Q Z:=by
 have hh:(s=2/\elt F t=18)\/(s=3/\elt F t=17):=by unfold tg at hs;unfold elt;by_cases e:(F.ti t).struct=0<;>simp [e] at hs<;>simp [e,hs]
 rcases hh with⟨rfl,e⟩|⟨rfl,e⟩<;>(rw [e] at h;exact .df hB 48 rfl rfl h)
theorem Jk(fk:aE F){s:Int}(hs:tg F t=s)(h:40<=t/\t<=50)(hc:(F.ti t).count=0)(g:GS F π u S C)(k:C.ks=ks)(q:iN 1 F π u L ks b (λd=>Q (.d d)) Z (dZ F (.c0 t) S)):aD (Ss.dr 2 q5.body) (aL B (n+4) (sU s t [] (elt F t)) Z) ⟨Internal.hc F (mk F L S C) b,[]⟩ (bO Q):=by
 have r:=Run.bind q;refine Gd.of rfl (pd hB fk (.inl h) g k (r.imp (λj S' z C' k' g'=>?_) λp S' z=>z));refine Gd.of rfl (uF hB fk h hs hc.symm ?_);exact z (cv (Tr.int _) (Tr.int _)) C' k' g'
theorem Jj(fk:aE F){s:Int}(hs:tg F t=s)(h:40<=t/\t<=50)(hc:(F.ti t).count=1){a:X}(g:GS F π u S C)(k:C.ks=ks)(ia:kK B F π u L ks b (n+4) a)(hh:a.fu+2<=23)(q:iN (a.fu+3) F π u L ks b (λd=>Q (.d d)) Z (dZ F (.c1 t a) S)):
  aD (Ss.dr 2 q5.body) (aL B (n+4) (sU s t [.int (aw ks a)] (elt F t)) Z) ⟨Internal.hc F (mk F L S C) b,[]⟩ (bO Q):=by
 have r:=Run.bind q;refine Gd.of rfl (pd hB fk (.inl h) g k (r.imp (λj S' z C' k' g'=>?_) λp S' z=>z));refine Gd.of rfl (uF hB fk h hs hc.symm ?_);have r:=Run.bind z;refine ⟨.t 0,rfl,?_⟩;refine ⟨rfl,[("p",.s 21),("element",.d (.int (elt F t))),("token",.d (.int j)),("inner",.t 0)],⟨rfl,rfl,rfl,rfl,trivial⟩,?_⟩;refine Gd.of rfl (ia g' k' (r.imp (λd S2 z tr C2 k2 g2=>?_) λp S' z=>z));refine ⟨rfl,[("element",.d (.int (elt F t))),("token",.d (.int j)),("inner",.t 0)],⟨rfl,rfl,rfl,trivial⟩,?_⟩;refine Wo.of (sM (i6 tr) (QN hh (by decide))) ?_;exact Gd.ok ((mQ (i6 tr)).ok (QN (QU hh) (by decide))) (z (mQ (i6 tr)) C2 k2 g2)
theorem Ji(fk:aE F){s:Int}(hs:tg F t=s)(h:40<=t/\t<=50)(hc:(F.ti t).count=2){a e:X}(g:GS F π u S C)(k:C.ks=ks)(ia:kK B F π u L ks b (n+4) a)(ie:kK B F π u L ks b (n+4) e)(hh:max a.fu e.fu+2<=23)(q:iN (max a.fu e.fu+3) F π u L ks b (λd=>Q (.d d)) Z (dZ F (.c2 t a e) S)):
  aD (Ss.dr 2 q5.body) (aL B (n+4) (sU s t [.int (aw ks a),.int (aw ks e)] (elt F t)) Z) ⟨Internal.hc F (mk F L S C) b,[]⟩ (bO Q):=by
 have r:=Run.bind q;have ha:=QU (TR a.fu e.fu);have he:=QU (TC a.fu e.fu);refine Gd.of rfl (pd hB fk (.inl h) g k (r.imp (λj S' z C' k' g'=>?_) λp S' z=>z));refine Gd.of rfl (uF hB fk h hs hc.symm ?_);have r:=Run.bind z;refine ⟨.t 0,rfl,?_⟩;refine ⟨rfl,[("p",.s 21),("element",.d (.int (elt F t))),("token",.d (.int j)),("inner",.t 0)],⟨rfl,rfl,rfl,rfl,trivial⟩,?_⟩;refine Gd.of rfl (ia g' k' (r.imp (λd S2 z tr C2 k2 g2=>?_) λp S' z=>z));have r:=Run.bind z;refine ⟨rfl,[("p",.s 21),("element",.d (.int (elt F t))),("token",.d (.int j)),("inner",.t 0)],⟨rfl,rfl,rfl,rfl,trivial⟩,?_⟩;refine Gd.of rfl (ie g2 k2 (r.imp (λd' S3 z tr' C3 k3 g3=>?_) λp S' z=>z));refine ⟨rfl,[("element",.d (.int (elt F t))),("token",.d (.int j)),("inner",.t 0)],⟨rfl,rfl,rfl,trivial⟩,?_⟩;have tt:=cv (tr.more ha) (tr'.more he);refine Wo.of (sM tt (QN hh (by decide))) ?_;exact Gd.ok ((mQ tt).ok (QN (QU hh) (by decide))) (z (mQ tt) C3 k3 g3)
theorem BM{wr:List (QI×W)}{r:List (Option af)}{f:Nat->Int->Option af}{x:X}(hl:ks.length+16<ah)(K:a6 ks)(h:aS ks x){d:QI}(e:bc F ks x=d)(q:Q (.d d) (kH F ks wr r f)):aq B (n+1) "KindTable.row" [.s 0,.d (.int (aw ks x))] (kH F ks wr r f) Q Z:=j9 hB hl K h (e.symm▸q)
omit hB in
theorem iN.mono{k:Nat}{Q Q':QI->HP->Prop}{Z:QI->QI->HP->Prop}{g:Except (QI×QI) QI×LS}(q:iN k F π u L ks b Q Z g)(i:∀d p,Q d p->Q' d p):iN k F π u L ks b Q' Z g:=Run.imp q (λd S z t C k g=>i _ _ (z t C k g)) λ_ _ z=>z
theorem vE(hl:C.ks.length+16<ah)(g:GS F π u S C){x:X}(hx:aS C.ks x)(nx:x.np){l:List QI}(e:bc F C.ks x=.tuple [.int (tg F t),.int t,.tuple l])(h:∀{Q':W->HP->Prop},(∀d p,Q (.d d) p->Q' (.d d) p)->aq B (n+1) "named_tree" [.s 21,.d (.tuple [.int (tg F t),.int t,.tuple l])] (hc F (mk F L S C) b) Q' Z):aq B (n+2) "sig_tree" [.s 21,.d (.int (aw C.ks x))] (hc F (mk F L S C) b) Q Z:=by
 refine .df hB 47 rfl rfl ?_;refine Br.no (n5 (vV (xl nx))) ?_;refine ⟨_,jf,Gd.of rfl (BM hB hl g.K hx e ?_)⟩;by_cases h2:tg F t=2
 ·exact Br.ey h2 (Gd.of rfl (h λd p q=>q))
 ·exact Br.en h2 (Br.ey ((jV F t).resolve_left h2) (Gd.of rfl (h λd p q=>q)))
theorem zJ(fk:aE F)(hl:ks.length+16<ah)(KK:a6 ks):∀(x:X){m:Nat},Wx F x->x.fu<=m->x.fu<=23->aS ks x->kK B F π u L ks b (m+7) x:=by
 intro x
 induction x with
 |p i=>
  intro m w _ _ _ S C Q Z g k q;rcases w with rfl|rfl|rfl|rfl<;>exact .df hB 47 rfl rfl (q (i6 (Tr.int _)) C k g)
 |arr a ih=>
  intro m w hm hh hx
  cases m with
  |zero=>exact absurd hm (VK _)
  |succ m=>
  have ih:kK B F π u L ks b (m+7) a:=ih w (Rv hm) (Ry hh) (KK.kd (.arr a) ((jm KK hx).resolve_left (λz=>z)).2 a (.head _));intro S C Q Z g k q;have r:=Run.bind q;subst k;refine .df hB 47 rfl rfl ?_;refine Br.no (n5 (vV (xl trivial))) ?_;refine ⟨_,jf,Gd.of rfl (j9 hB hl g.K hx ?_)⟩;refine Gd.of rfl (ih g rfl (r.imp (λd S2 z tr C2 k2 g2=>?_) λp S' z=>z));have tt:=cv ((Tr.int 29).more (Rr _)) tr;exact Gd.ok (tt.ok (QN (QU hh) (by decide))) (z tt C2 k2 g2)
 |var i=>
  intro m w hm hh hx S C Q Z g k q;subst k;refine .df hB 47 rfl rfl ?_;refine Br.no (n5 (vV (xl trivial))) ?_;refine ⟨_,jf,Gd.of rfl (j9 hB hl g.K hx ?_)⟩;exact q (cv (Tr.int _) (Tr.int _)) C rfl g
 |c0 t=>
  intro m w hm hh hx S C Q Z g k q;subst k;exact vE hB hl g hx trivial rfl λi=>wg hB (Jk hB fk rfl w.1 w.2 g rfl (iN.mono q i)) rfl
 |c1 t a ih=>
  intro m w hm hh hx
  match m,hm with
  |m+2,hm=>
  have ih:kK B F π u L ks b (m+7) a:=ih w.2.2 (Rv (Rv hm)) (Ry (Ry hh)) (KK.kd (.c1 t a) ((jm KK hx).resolve_left (λz=>z)).2 a (.head _));intro S C Q Z g k q;subst k;exact vE hB hl g hx trivial rfl λi=>wg hB (Jj hB fk rfl w.1 w.2.1 g rfl ih hh (iN.mono q i)) rfl
 |c2 t a e ih ih'=>
  intro m w hm hh hx
  match m,hm with
  |m+2,hm=>
  have kd:=KK.kd (.c2 t a e) ((jm KK hx).resolve_left (λz=>z)).2;have hm:=T5.mp (Rv (Rv hm));have h2:=T5.mp (Ry (Ry hh));have ih:kK B F π u L ks b (m+7) a:=ih w.2.2.1 hm.1 h2.1 (kd a (.head _));have ih':kK B F π u L ks b (m+7) e:=ih' w.2.2.2 hm.2 h2.2 (kd e (.tail _ (.head _)));intro S C Q Z g k q;subst k;exact vE hB hl g hx trivial rfl λi=>wg hB (Ji hB fk rfl w.1 w.2.1 g rfl ih ih' hh (iN.mono q i)) rfl
end
section
variable{B:Bs}{F:Fx}{π:QI->Nat->Prop}{u:Nat}{L S:LS}{C:Ct}{b:QI}{t:Int}{n:Nat}{ks:List X}{Q:W->HP->Prop}{Z:QI->QI->HP->Prop}{x:X}{l:List QI}(hB:aJ B)
def vq(k:Int):Prop:=∃d r:Nat,(d=1\/d=2)/\r<16777216/\k=(d*16777216+r:Nat)
theorem Nz{ok:Int->LS->Prop}{er:QI×QI->LS->Prop}(g:GS F π u S C)(h:Run (bp F t S) ok er):Run (bp F t S) (λk S'=>vq k/\ok k S') er:=by
 have hr:ix S.refs t<9:=QO (QN fJ g.rf) (by decide);have e1:vq ((16777217+ix S.refs t:Nat):Int):=⟨1,1+ix S.refs t,.inl rfl,by lia,by lia⟩;revert h;unfold bp;by_cases a:¬(40<=t/\t<=50)
 ·refine aa (QR a) ?_;exact id
 refine aa (QP a) ?_;by_cases c:47<t
 ·refine aa (QR c) ?_;exact λh=>⟨⟨2,(t -46).toNat,.inr rfl,by lia,by lia⟩,h⟩
 refine aa (QP c) ?_;by_cases d:t∈S.refs
 ·refine aa (QR d) ?_;exact λh=>⟨e1,h⟩
 refine aa (QP d) ?_;by_cases e:(F.ti t).bB≠0
 ·refine aa (QR e) ?_;exact id
 refine aa (QP e) ?_;by_cases f:bY F t bU≠t\/1<(F.ti t).name.length
 ·refine aa (QR f) ?_;exact id
 ·refine aa (QP f) ?_;exact λh=>⟨e1,h⟩
include hB
theorem vY(hl:C.ks.length+16<ah)(g:GS F π u S C)(hx:aS C.ks x)(e:bc F C.ks x=.tuple [.int (tg F t),.int t,.tuple l]){v:Bool}(hv:((l.length:Int)==0)=v)(q:Q (.d (.bool v)) (hc F (mk F L S C) b)):aq B (n+3) "is_plain" [.s 21,.d (.int (aw C.ks x))] (hc F (mk F L S C) b) Q Z:=by
 subst hv;rcases jV F t with e2|e2<;>rw [e2] at e
 ·exact .df hB 49 rfl rfl (Gd.of rfl (BQ hB hl g.K hx e (Gd.of rfl (yC hB hl g.K hx (.inl rfl) e q))))
 ·exact .df hB 49 rfl rfl (Gd.of rfl (BQ hB hl g.K hx e (Gd.of rfl (yC hB hl g.K hx (.inr rfl) e q))))
theorem Hg(k:C.ks=ks)(hl:ks.length+16<ah)(g:GS F π u S C)(hx:aS ks x){d:QI}(e:bc F ks x=d)(q:Q (.d d) (hc F (mk F L S C) b)):aq B (n+1) "KindTable.row" [.s 0,.d (.int (aw ks x))] (hc F (mk F L S C) b) Q Z:=by
 subst k;exact BM hB hl g.K hx e q
theorem F2(fk:aE F)(hl:C.ks.length+16<ah)(g:GS F π u S C)(hk:C.ks=ks)(w:Wx F (.c0 t))(hx:aS C.ks (.c0 t))(q:Run (bp F t S) (λk S=>vq k->eE F π u L ks b (Q (.d (.int k))) S) λp S=>eE F π u L ks b (Z p.1 p.2) S):aq B (n+5) "kind_token" [.s 21,.d (.int (aw C.ks (.c0 t):Nat))] (hc F (mk F L S C) b) Q Z:=by
 subst hk;refine .df hB 50 rfl rfl ?_;refine Gd.of rfl (vY hB hl g hx rfl rfl ?_);refine Gd.of rfl (zq hB hl g.K hx (jV F t) rfl ?_);refine Gd.of rfl (pd hB fk (.inl w.1) g rfl ((Nz g q).imp (λk S' z C' k' g'=>?_) λp S' z=>z));refine ⟨_,jf,?_⟩;refine Gd.of rfl (Hg hB k' hl g' hx rfl ?_);exact Gd.of rfl (uF hB fk w.1 rfl w.2.symm (z.2 z.1 C' k' g'))
end
theorem Ef{α:Type}{l:List α}{x:α}{u:Nat}(h:l.length<=u):(aT l x).length<=u+1:=by
 unfold aT;by_cases q:x∈l
 ·refine aa (QR q) ?_;exact RQ h
 ·refine aa (QP q) (aa Q2 ?_);exact QU h
def same(S S':LS):Prop:=S'.owners=S.owners/\S'.used=S.used
def R.inv{α:Type}(P:α->Prop)(m:R α):Prop:=∀{S:LS}{ok:α->LS->Prop}{er:QI×QI->LS->Prop},Run (m S) ok er->Run (m S) (λa S'=>(P a/\same S S')/\ok a S') er
theorem R.qA{α:Type}{P:α->Prop}{a:α}(p:P a):(R.ret a).inv P:=λh=>⟨⟨p,rfl,rfl⟩,h⟩
theorem R.lZ{α β:Type}{P:α->Prop}{P':β->Prop}{m:R α}{f:α->R β}(i:m.inv P)(j:∀a,(f a).inv P'):(m.bind f).inv P':=λ{S ok er} h=>by
 have h:=i (Run.bind h);revert h;unfold R.bind Run
 cases e:(m S).1 with
 |error b=>exact id
 |ok a=>
  intro h;refine (?_:Run (f a (m S).2) (λc S''=>(P' c/\same S S'')/\ok c S'') er)
  exact (j a h.2).imp (λc S'' z=>⟨⟨z.1.1,z.1.2.1.trans h.1.2.1,z.1.2.2.trans h.1.2.2⟩,z.2⟩) λ_ _ z=>z
theorem ui{F:Fx}{t:Int}:(bp F t).inv λ_=>True:=λ{S ok er} h=>by
 revert h;unfold bp;by_cases a:¬(40<=t/\t<=50)
 ·refine aa (QR a) ?_;exact id
 refine aa (QP a) ?_;by_cases c:47<t
 ·refine aa (QR c) ?_;exact λh=>⟨⟨trivial,rfl,rfl⟩,h⟩
 refine aa (QP c) ?_;by_cases d:t∈S.refs
 ·refine aa (QR d) ?_;exact λh=>⟨⟨trivial,rfl,rfl⟩,h⟩
 refine aa (QP d) ?_;by_cases e:(F.ti t).bB≠0
 ·refine aa (QR e) ?_;exact id
 refine aa (QP e) ?_;by_cases f:bY F t bU≠t\/1<(F.ti t).name.length
 ·refine aa (QR f) ?_;exact id
 ·refine aa (QP f) ?_;exact λh=>⟨⟨trivial,rfl,rfl⟩,h⟩
def Lv(d:QI):Prop:=∃xs,d=.tuple xs
theorem jS{F:Fx}:∀x:X,(dZ F x).inv Lv
 |.p _|.var _=>R.qA ⟨_,rfl⟩
 |.arr x=>R.lZ (jS x) λd=>R.qA ⟨_,rfl⟩
 |.c0 _=>R.lZ ui λd=>R.qA ⟨_,rfl⟩
 |.c1 _ a=>R.lZ ui λ_=>R.lZ (jS a) λd=>R.qA ⟨_,rfl⟩
 |.c2 _ a b=>R.lZ ui λ_=>R.lZ (jS a) λ_=>R.lZ (jS b) λd=>R.qA ⟨_,rfl⟩
section
variable{B:Bs}{F:Fx}{π:QI->Nat->Prop}{u:Nat}{L S:LS}{C:Ct}{b:QI}{t:Int}{n:Nat}{ks:List X}{Q:W->HP->Prop}{Z:QI->QI->HP->Prop}{x:X}{l:List QI}(hB:aJ B)
theorem v3(g:GS F π u S C)(hx:aS C.ks x):ix (S.owners.map λx=>RM (aw C.ks x)) (.int (aw C.ks x))=ix S.owners x/\(RM (aw C.ks x)∈S.owners.map (λx=>RM (aw C.ks x))↔x∈S.owners):=
 have j:=λy m e=>xk g.K (g.oM y m) hx (qB e)
 ⟨lU j,mem_map j⟩
def Ct.own(C:Ct)(d:QI):Ct:=⟨C.ks,C.texts,aT C.aH d,aT C.tabs 27⟩
theorem GS.own{d:QI}(tr:Tr 25 d)(m:x∉S.owners)(hx:aS C.ks x)(hu:u+1<=1000)(g:GS F π u S C):GS F π (u+1) (S.own x d) (C.own d):=
 {g with
  oN:=S7.mpr ⟨g.oN,RV _ _,λa ha b hb e=>m (by refine a9 (QW.mp hb) (a9 e ?_);exact ha)⟩
  oM:=λv q=>(RL.mp q).elim (g.oM v) λq=>(QW.mp q).symm▸hx
  oS:=by refine aa Q2 (aa Q2 (aa g.oS ?_));rfl
  sB:=λv q=>(RL.mp q).elim (λq=>bV (g.sB v q)) λq=>(QW.mp q).symm▸jy
  mB:=λx m=>⟨(g.mB x m).1,bV (g.mB x m).2⟩
  bT:=gU g.bT tr
  pin:=λd j z=>⟨bV (g.pin d j z).1,(lV (g.pin d j z).1).trans (g.pin d j z).2⟩
  gN:=jx g.gN
  gM:=gU g.gM (.tail _ (.tail _ (.head _)))
  iA:=uI
  jo:=λh=>g.jo λq=>h (bV q)
  g1:=λh=>g.g1 λq=>h (bV q)
  jq:=λh=>g.jq λq=>h (bV q)
  len:=⟨⟨by refine aa Q2 ?_;exact QU g.len.1.1,RQ g.len.1.2.1,Ef g.len.1.2.2⟩,hu⟩}
theorem JQ{d:QI}(g:GS F π u S C):{bW ((mk F L S C).gT d) 27 (fB C.aH d) with gf:=(S.owners.map λx=>.int (aw C.ks x))++[.int (aw C.ks x)]}=mk F L (S.own x d) (C.own d):=by
 have r:=pG g (bl:=aT C.aH d) (λ_ _=>rfl) (λx m=>lV m) λa m=>rfl
 have e:dA F (S.own x d) C.texts (aT C.aH d)=λu=>if u=27 then dA F S C.texts C.aH 27++[fB C.aH d] else dA F S C.texts C.aH u:=by
  refine Wl ?_ Gj.symm;have e:fB (aT C.aH d) d=fB C.aH d:=QQ (λk:Nat=>RC [.int (k+1:Nat)]) oO;refine (?_:cN _ (S.refs.map (r1 F S.aI _)) ((S.specs++[d]).map _) (S.members.map _)=_);refine aa Rq (aa Th (aa e (aa r.2.2.1 (aa r.2.2.2 ?_))));rfl
 unfold mk Ct.own;refine aa e ?_;refine aa Rq ?_;rfl
theorem Nu{A:Ab}{row row' x:QI}{k:Nat}{P:HP->Prop}(e:row'=row)(m:x∉A.gf)(ek:k=A.gf.length+1)(q:P (hc F {bW A 27 row with gf:=A.gf++[x]} b)):
  P ⟨upd (hc F (bW A 27 row') b).s 39 (some (.aj 1 (bX (cy 1 A.gf) x (.d (.int k))))),(hc F (bW A 27 row') b).f,(hc F (bW A 27 row') b).g⟩:=by
 subst e;refine aa (sT m ek) ?_;exact q
end
section
variable{B:Bs}{F:Fx}{π:QI->Nat->Prop}{u:Nat}{L S:LS}{C:Ct}{b:QI}{t:Int}{n:Nat}{ks:List X}{Q:W->HP->Prop}{Z:QI->QI->HP->Prop}{x:X}{l:List QI}(hB:aJ B)
theorem sD(k:C.ks=ks)(g:GS F π u S C)(hx:aS ks x):(x∈S.owners->a5 (cy 1 (mk F L S C).gf) (.int (aw ks x))=some (.d (.int (1+ix S.owners x:Nat))))/\(x∉S.owners->RM (aw ks x)∉(mk F L S C).gf):=by
 subst k;exact ⟨λm=>(lJ ((v3 g hx).2.mpr m)).trans (QQ (λk:Nat=>some (W.d (.int (1+k:Nat)))) (v3 g hx).1),λm q=>m ((v3 g hx).2.mp q)⟩
theorem I4{K:Kw}{ρ:Ro}(k:C.ks=ks)(g:GS F π u S C){d:QI}(q:K.ay ρ ⟨hc F (mk F L (S.own x d) (C.own d)) b,[]⟩):K.ay ρ ⟨hc F {bW ((mk F L S C).gT d) 27 (fB C.aH d) with gf:=(mk F L S C).gf++[.int (aw ks x)]} b,[]⟩:=by
 subst k;exact (QQ (λA=>K.ay ρ ⟨hc F A b,[]⟩) (JQ g)).mpr q
theorem GS.more(g:GS F π u S C){v:Nat}(h:u<=v)(h':v<=1000):GS F π v S C:={g with len:=⟨⟨QN g.len.1.1 h,QN g.len.1.2.1 h,QN g.len.1.2.2 h⟩,h'⟩}
theorem GS.ow(g:GS F π u S C):S.owners.length<=1000/\S.used.length<=1000/\C.aH.length<=1000:=⟨QN g.len.1.1 g.len.2,QN g.len.1.2.1 g.len.2,QN g.len.1.2.2 g.len.2⟩
theorem nB{k:Nat}(h:k<=1000):k+2<ah:=QO (Ri h 2) (by decide+kernel)
include hB
theorem IE(k:C.ks=ks)(hl:ks.length+16<ah)(g:GS F π u S C)(hx:aS ks x){a:QI}{l:List QI}(e:bc F ks x=.tuple [.int (tg F t),.int t,.tuple (a::l)])(q:Q (.d (.bool false)) (hc F (mk F L S C) b)):aq B (n+3) "is_plain" [.s 21,.d (.int (aw ks x))] (hc F (mk F L S C) b) Q Z:=by
 subst k;exact vY hB hl g hx e rfl q
theorem GH{K:Kw}(fk:aE F)(hl:ks.length+16<ah)(KK:a6 ks)(k:C.ks=ks)(g:GS F π u S C)(hu:u+1<=1000)(hx:aS ks x)(w:Wx F x)(hf:x.fu<=23)(m:x∉S.owners)
  (q:Run (dZ F x S) (λd S'=>∀w,eE F π (u+1) L ks b (λp=>K.ay [("p",.s 21),("k",.d (.int (aw ks x))),("blob",w)] ⟨p,[]⟩) (S'.own x d)) λp S'=>eE F π u L ks b (Z p.1 p.2) S'):
  aD (Ss.bd 1 yk.body) (aL B (n+30) [("p",.s 21),("k",.d (.int (aw ks x)))] Z) ⟨hc F (mk F L S C) b,[]⟩ K:=by
 refine ⟨_,AX,?_⟩;refine Gd.of rfl (zJ hB fk hl KK x w (QN hf (Sd ..)) hf hx g k ((jS x q).imp (λd S' z tr C1 k1 g1=>?_) λ_ _ z=>z));obtain ⟨⟨⟨xs,rfl⟩,so,su⟩,z⟩:=z;have m1:=so▸m;have tr:=tr.more (QN (QU hf) (by decide):x.fu+1<=25);have lo:(mk F L S' C1).gf.length+2<ah:=(QX _).symm▸nB g1.ow.1;have lt:=(QX (fB C1.aH)).symm▸nB (g1.oS▸g1.ow.1);refine Gd.of rfl (zK hB tr g1.bT (nB g1.ow.2.2) ?_);refine ⟨_,tc,?_⟩;refine Gd.of rfl (uH hB (λt=>QQ (W3 _) (g1.iA t)) (QO g1.tb (by decide+kernel)) (Rh lt) ?_);refine Gd.lim (nh.symm▸Rh (Rh lo)) ?_
 exact Nu (P:=λp=>K.ay [("p",.s 21),("k",.d (.int (aw ks x))),("blob",.d (.int (ix C1.aH (.tuple xs)+1:Nat)))] ⟨p,[]⟩) rfl ((sD (L:=L) k1 g1 hx).2 m1)
  (QQ TX ((QX _).trans (g1.oS.trans (QX _).symm))) (I4 k1 g1 (z _ (C1.own (.tuple xs)) k1 (g1.own tr m1 (k1.symm▸hx) hu)))
theorem zD(k:C.ks=ks)(g:GS F π u S C)(hx:aS ks x)(m:x∈S.owners)(q:Q (.d (.int (27*16777216+(1+ix S.owners x):Nat))) (hc F (mk F L S C) b)){ρ:Ro}:aD (Ss.dr 2 yk.body) (aL B (n+2) (("p",.s 21)::("k",.d (.int (aw ks x)))::ρ) Z) ⟨hc F (mk F L S C) b,[]⟩ (bO Q):=by
 refine Wo.cI ((sD k g hx).1 m) ?_;exact Gd.of rfl (qj hB (by decide) (QO (Rj (QN fJ g.ow.1) 1) (by decide)) q)
theorem zm(fk:aE F)(hl:ks.length+16<ah)(KK:a6 ks)(k:C.ks=ks)(g:GS F π u S C)(hu:u+1<=1000)(hx:aS ks x)(w:Wx F x)(hf:x.fu<=23){a:QI}{l:List QI}(e:bc F ks x=.tuple [.int (tg F t),.int t,.tuple (a::l)])
  (q:Run (hV F x S) (λk S'=>∀r:Nat,r<16777216->k=((r*8+4:Nat):Int)->eE F π (u+1) L ks b (Q (.d (.int (27*16777216+r:Nat)))) S') λp S'=>eE F π (u+1) L ks b (Z p.1 p.2) S'):aq B (n+31) "kind_token" [.s 21,.d (.int (aw ks x))] (hc F (mk F L S C) b) Q Z:=by
 have hr:∀{S:LS}{C:Ct},GS F π (u+1) S C->1+ix S.owners x<16777216:=λg=>QO (Rj (QN fJ g.ow.1) 1) (by decide);have ec:∀i:Nat,((1+i:Nat):Int)*8+4=(((1+i)*8+4:Nat):Int):=λi=>rfl;refine .df hB 50 rfl rfl ?_;refine Gd.of rfl (IE hB k hl g hx e ?_);unfold hV at q;by_cases m:x∈S.owners
 ·rw [QR m] at q
  refine Br.no (pV ((sD k g hx).1 m)) ?_;have g1:=g.more (RI u) hu;exact zD hB k g1 hx m (q (1+ix S.owners x) (hr g1) (ec _) C k g1)
 ·rw [QP m] at q
  refine Br.yes (nu (ng ((sD k g hx).2 m))) ?_;refine GH hB fk hl KK k g hu hx w hf m (((jS x (Run.bind q))).imp (λd S' z w C' k' g'=>?_) λp S' z C' k' g'=>z C' k' (g'.more (RI u) hu));have m1:x∈(S'.own x d).owners:=RN _ (.head _);have e:ix (S'.own x d).owners x=ix S'.owners x:=(jk (z.1.2.1▸m)).trans (kb (z.1.2.1▸m)).symm;exact zD hB k' g' hx m1 (z.2 (1+ix (S'.own x d).owners x) (hr g') (by refine aa e ?_;exact ec _) C' k' g')
end
theorem AA{k r b:Nat}(h:r<16777216)(hb:k%2=b):((k*16777216+r:Nat):Int)%16777216*8+((k*16777216+r:Nat):Int)/16777216%2=((r*8+b:Nat):Int):=QQ Nat.cast (show(k*16777216+r)%16777216*8+(k*16777216+r)/16777216%2=r*8+b by rewrite [Nat.mul_add_mod_of_lt h,RO (k*16777216),Xu _ _ (by decide),Zn h,Sv,hb];rfl)
section
variable{B:Bs}{F:Fx}{π:QI->Nat->Prop}{u:Nat}{L S:LS}{C:Ct}{b:QI}{t:Int}{n:Nat}{ks:List X}{Q:W->HP->Prop}{Z:QI->QI->HP->Prop}{x:X}{l:List QI}(hB:aJ B)
def NQ(d j:Nat):Prop:=(d=2/\j=0)\/(d=1/\j=1)\/(d=27/\j=4)
include hB
theorem yh{k:Nat}(h:∀{Q':W->HP->Prop},(∀d r j A,NQ d j->r<16777216->Q (.d (.int (r*8+j:Nat))) (hc F A b)->Q' (.d (.int (d*16777216+r:Nat))) (hc F A b))->aq B (n+2) "kind_token" [.s 21,.d (.int k)] (hc F (mk F L S C) b) Q' Z):aq B (n+3) "kind_coded" [.s 21,.d (.int 2),.d (.int k)] (hc F (mk F L S C) b) Q Z:=by
 refine .df hB 51 rfl rfl ?_;refine Gd.of rfl (h λd r j A hc hr q=>?_);have e1:(d*16777216+r)/16777216=d:=by(rewrite [RO];refine aa (Xu _ _ (by decide)) (aa (Zn hr) ?_);rewrite [Sv];rfl)
 have e2:(d*16777216+r)%16777216=r:=by(rewrite [RO,Nat.add_mul_mod_self_right];refine aa (Nat.mod_eq_of_lt hr) ?_;rfl)
 refine Gd.of rfl (GG hB ?_);refine aa e1 (aa e2 ?_);refine Gd.of rfl ?_;have hc':∃m,a5 [(.int 0,.d (.tuple [.int 2,.tuple [.int 2,.int 1,.int 27]])),(.int 1,.d (.tuple [.int 2,.tuple [.int 4,.int 8,.int 23]])),(.int 2,.d (.tuple [.int 3,.tuple [.int 2,.int 1,.int (-1),.int 6,.int 27]])),(.int 3,.d (.tuple [.int 1,.tuple [.int 20,.int 23]])),(.int 4,.d (.tuple [.int 1,.tuple [.int 6,.int 10]])),(.int 5,.d (.tuple [.int 2,.tuple [.int 0,.int (-1),.int 35,.int 1]])),(.int 6,.d (.tuple [.int 1,.tuple [.int 2,.int 6]]))] (.int (2:Nat))=some (.d (.tuple [.int (3:Nat),.tuple (W3 RM m)]))/\xI d m 0=some j/\j<2^3:=⟨[2,1,-1,6,27],rfl,by rcases hc with⟨rfl,rfl⟩|⟨rfl,rfl⟩|⟨rfl,rfl⟩<;>exact ⟨rfl,by decide⟩⟩;obtain ⟨m,h1,h2,h3⟩:=hc';exact DE hB h1 h2 (by decide) h3 hr q
def X.cls:X->Prop
 |.c0 _|.c1 _ _|.c2 _ _ _=>True
 |_=>False
def yM(F:Fx)(π:QI->Nat->Prop)(u:Nat)(L:LS)(ks:List X)(b:QI)(Q:Int->HP->Prop)(Z:QI->QI->HP->Prop)(g:Except (QI×QI) Int×LS):Prop:=Run g (λk S=>eE F π u L ks b (Q k) S) λp S=>eE F π u L ks b (Z p.1 p.2) S
theorem IL(fk:aE F)(hl:ks.length+16<ah)(KK:a6 ks)(k:C.ks=ks)(g:GS F π u S C)(hu:u+1<=1000)(hx:aS ks x)(w:Wx F x)(c:x.cls)(hf:x.fu<=23)(q:yM F π (u+1) L ks b (λk=>Q (.d (.int k))) Z (lE F x S)):
  aq B (n+32) "kind_coded" [.s 21,.d (.int 2),.d (.int (aw ks x))] (hc F (mk F L S C) b) Q Z:=by
 cases x with
 |c0 t=>
  have r:=Run.bind q;subst k;refine yh hB λi=>F2 hB fk hl g rfl w hx (r.imp (λj S' z tk C' k' g'=>?_) λp S' z C' k' g'=>z C' k' (g'.more (RI u) hu));obtain ⟨d,r,hd,hr,rfl⟩:=tk;have z:=z C' k' (g'.more (RI u) hu);rcases hd with rfl|rfl
  ·exact i 1 r 1 _ (.inr (.inl ⟨rfl,rfl⟩)) hr ((QQ (λk=>Q (.d (.int k)) _) (AA hr rfl)).mp z)
  ·exact i 2 r 0 _ (.inl ⟨rfl,rfl⟩) hr ((QQ (λk=>Q (.d (.int k)) _) (AA hr rfl)).mp z)
 |c1 t a=>exact yh hB λi=>zm hB fk hl KK k g hu hx w hf rfl (Run.imp q (λj S' z r hr e C' k' g'=>i 27 r 4 _ (.inr (.inr ⟨rfl,rfl⟩)) hr (e▸z C' k' g')) λ_ _ z=>z)
 |c2 t a e=>exact yh hB λi=>zm hB fk hl KK k g hu hx w hf rfl (Run.imp q (λj S' z r hr e C' k' g'=>i 27 r 4 _ (.inr (.inr ⟨rfl,rfl⟩)) hr (e▸z C' k' g')) λ_ _ z=>z)
 |_=>exact c.elim
end
theorem wB{α:Type}{o:Option α}{x:α}(a:o=none)(b:o=some x):False:=nomatch a.symm.trans b
theorem ai.nY{α β γ:Type}{P:α->β->Prop}{P':α->γ->Prop}{P'':α->β->Prop}{as:List α}{bs:List β}{cs:List γ}(j:∀a b c,P a b->P' a c->P'' a b)(r:ai P as bs)(r':ai P' as cs):ai P'' as bs:=by
 induction r generalizing cs with
 |nil=>exact .nil
 |cons h t ih=>cases r' with|cons h' t'=>exact .cons (j _ _ _ h h') (ih t')
section
variable{B:Bs}{p:HP}{k:Nat}{i:Int}{c:af}
noncomputable def HP.plus(p:HP)(k:Nat)(i:Int)(c:af):HP:=⟨p.s,λj m=>if j=k/\m=i then some c else p.f j m,p.g⟩
theorem vX{w:W}(n:w≠.f k i):Hs.get ⟨p.plus k i c,[]⟩ w=Hs.get ⟨p,[]⟩ w:=by
 cases w with
 |f j m=>exact QP λq=>n (by exact aa q.1 (aa q.2 rfl))
 |_=>rfl
def kM(L:Lm)(w:W):Lm:=λx=>if x=w then none else L x
theorem tj{L L1:Lm}{w x:W}{v v':V}{d:W}(f:L d=none)(h:au (Lw L1 w) x v)(h':au (Lw L w) x v'):au (Lw (kM L1 d) w) x v:=by
 have go:∀x,(∃q,Lw L1 w x=some q/\v=.r q.1)->(∃q,Lw L w x=some q/\v'=.r q.1)->∃q,Lw (kM L1 d) w x=some q/\v=.r q.1:=λx h h'=>by
  obtain ⟨q,e,ev⟩:=h;obtain ⟨q',e',_⟩:=h';have ne:x≠d:=λz=>wB f ((z▸Lw.le x q' e':L d=some q'));refine ⟨q,?_,ev⟩;unfold Lw at e⊢
  cases n:w.nt with
  |false=>rw [n] at e;exact (QP ne).trans e
  |true=>
   rw [n] at e;refine (?_:Ln (kM L1 d) x=some q);have e:=e;unfold Ln kM at*;refine aa (QP ne) ?_;exact e
 cases x with
 |d _=>exact h
 |bb=>exact h
 |_=>exact go _ h h'
theorem av.sub{L L1:Lm}{σ σ':Map}(R:av B L ⟨p,[]⟩ σ)(fr:p.f k i=none)(R1:av B L1 ⟨p.plus k i c,[]⟩ σ'):av B (kM L1 (.f k i)) ⟨p,[]⟩ σ':=by
 have f0:Hs.get ⟨p,[]⟩ (.f k i)=none:=fr;have f:=R.dh _ f0;refine ⟨λw e ew=>?_,λw ew=>?_,λw w' a b ea eb=>?_,λx w ex=>?_⟩
 ·have ne:w≠.f k i:=λz=>wB f0 (z▸ew:Hs.get ⟨p,[]⟩ (.f k i)=some e)
  obtain ⟨a,ea,ca⟩:=R1.cell w e ((vX ne).trans ew);obtain ⟨a0,_,c0⟩:=R.cell w e ew;refine ⟨a,(QP ne).trans ea,?_⟩
  cases e with
  |lst l=>exact ⟨ca.1,ca.2.imp λl' z=>⟨z.1,c0.2.elim λl0 y=>ai.nY (λ_ _ _ h h'=>tj f h h') z.2 y.2⟩⟩
  |aj t l=>exact ⟨ca.1,ca.2.imp λl' z=>⟨z.1,c0.2.elim λl0 y=>ai.nY (λ_ _ _ h h'=>⟨h.1,tj f h.2 h'.2⟩) z.2 y.2⟩⟩
  |obj n l=>exact ⟨ca.1,ca.2.imp λl' z=>⟨z.1,z.2.1,c0.2.elim λl0 y=>ai.nY (λ_ _ _ h h'=>⟨h.1,tj f h.2 h'.2⟩) z.2.2 y.2.2⟩⟩
  |cH=>exact ca
 ·by_cases ne:w=.f k i
  ·exact QR ne
  ·exact (QP ne).trans (R1.dh w ((vX ne).trans ew))
 ·have g:∀{w a},kM L1 (.f k i) w=some a->L1 w=some a:=λ{w a} e=>by
   unfold kM at e;by_cases ne:w=.f k i
   ·rw [QR ne] at e;exact nomatch e
   ·rw [QP ne] at e;exact e
  exact R1.sep w w' a b (g ea) (g eb)
 ·obtain ⟨n1,v,ev,rv⟩:=R1.gv x w ex
  obtain ⟨_,v',ev',rv'⟩:=R.gv x w ex;refine ⟨n1,v,ev,?_⟩;have h:=tj f (show au (Lw L1 (.t 0)) w v from rv) (show au (Lw L (.t 0)) w v' from rv');exact h
theorem aq.local{n:Nat}{f:String}{ws:List W}{Q:W->HP->Prop}{X:QI->QI->HP->Prop}{d:QI}(fr:p.f k i=none)(h:aq B n f ws p (λv q=>v=.d d/\q=p.plus k i c) λ_ _ _=>False)(q:Q (.d d) p):aq B n f ws p Q X:=λL σ vs R r=>
 (h L σ vs R r).mono (λv σ' y=>az y λL1 w h1 z=>by
  obtain ⟨le,R1,wr,rfl,rfl⟩:=z;have f0:Hs.get ⟨p,[]⟩ (.f k i)=none:=fr;exact ⟨kM L1 (.f k i),.d d,p,λx a e=>(QP λz:x=.f k i=>wB (R.dh _ f0) (z▸Ln.le x a e:L (.f k i)=some a)).trans (le x a e),R.sub fr R1,wr,q⟩) λa b σ' y=>ao y λ_ _ z=>z.2.2.elim
end
section
variable{B:Bs}{F:Fx}{A:Ab}{p:HP}{b:QI}{t i:Int}{n:Nat}{Q:W->HP->Prop}{Z:QI->QI->HP->Prop}{tl:List af}(hB:aJ B)
def fb(i:Int):Prop:=1<=i/\i<=22
theorem qM{t i:Int}(h:40<=t/\t<=50)(e:i=2*(t -40)+1\/i=2*(t -40)+2):fb i:=⟨by omega,by omega⟩
noncomputable def mY(F:Fx)(i:Int):QI:=.tuple [da i,.int (F.fk i)]
theorem pH:Tr 1 (mY F i):=cv (by unfold da;by_cases h:i%2=1<;>simp only [h]<;>exact Tr.str (by decide+kernel)) (Tr.int _)
theorem mc(h:fb i):Hs.get ⟨hc F A b,tl⟩ (.f 10 i)=some (.obj "FieldDef" (l9 F i)):=by
 refine (?_:aR (kq i) _=_);unfold kq;refine aa (decide_eq_true h.1) (aa (decide_eq_true h.2) ?_);rfl
theorem Mq(h:40<=t/\t<=50):Hs.get ⟨hc F A b,tl⟩ (.f 2 t)=some (.lst [.d (.int (2*(t -40)+1)),.d (.int (2*(t -40)+2))]):=by
 refine (?_:aR (cz t) _=_);refine aa (qF h) ?_;rfl
theorem kz(h:fb i){Q:W->Prop}(q:Q (.f 10 i)):Wo (bZ (.d .none::kA.map λi=>W.f 10 i) i) Q:=by
 obtain ⟨k,rfl⟩:=Ue h.1;refine Wo.of ?_ q;have hk:k<22:=by have:=h.2;omega
 have e:=(by decide:∀k:Nat,k<22->kA[k]?=some (1+(k:Int))) k hk;have e':(.d .none::kA.map λi=>W.f 10 i)[1+k]?=some (.f 10 (1+k)):=by(rewrite [RO];refine aa (W4) (aa (RJ) (aa e ?_)));rfl
 exact at_of (Rt (show 1+k<51 by omega) (by decide+kernel)) e'
theorem qy(h:40<=t/\t<=50):cc ⟨hc F A b,tl⟩ (.f 2 t)=some (1,[.d (.int (2*(t -40)+1)),.d (.int (2*(t -40)+2))]):=by unfold cc;refine aa (Mq h) ?_;rfl
theorem IB{k:Nat}{i:Int}{c:af}:Hs.get ⟨p.plus k i c,tl⟩ (.f k i)=some c:=QR ⟨rfl,rfl⟩
theorem B2{x y:W}:cc ⟨p.plus 12 0 (.lst [x,y]),tl⟩ (.f 12 0)=some (1,[x,y]):=by
 have e:Hs.get ⟨p.plus 12 0 (.lst [x,y]),tl⟩ (.f 12 0)=some (.lst [x,y]):=IB;unfold cc;refine aa e ?_;rfl
noncomputable def t5(F:Fx)(i:Int):W:=.d (.tuple [.int i,mY F i])
theorem Cy:aP (.tuple [.int i,mY F i])=true:=(cv ((Tr.int i).more (Rr 1)) pH).ok (by decide)
include hB
theorem xM(e:Hs.get ⟨p,[]⟩ (.f 10 i)=some (.obj "FieldDef" (l9 F i)))(q:Q (.d (mY F i)) p):aq B (n+1) "field_row_of" [.f 10 i] p Q Z:=by
 refine .df hB 33 rfl rfl ?_;refine Wo.aF e rfl ?_;refine Wo.aF e rfl ?_;exact Gd.ok (pH.ok (by decide)) q
theorem Me{w:W}{r r2:QI}{m:Int}(tr:Tr 1 r)(it:cc ⟨p,[]⟩ w=some (1,[.d (.tuple [.int i,r]),.d (.tuple [.int m,r2])]))(q:Q (.d .none) p):aq B (n+1) "need_foremost" [.d r,w,.d (.int i)] p Q Z:=by
 refine .df hB 32 rfl rfl ?_;refine Wo.of it ?_;refine ⟨it,[("row",.d r),("n",.d (.int i))],⟨rfl,rfl,trivial⟩,?_⟩;refine Br.oj (tr.eqv tr|>.trans (Rc rfl)) ?_;exact Br.nn rfl q
theorem Md{w:W}{r r2:QI}{m:Int}(tr:Tr 1 r)(tr2:Tr 1 r2)(ne:r2≠r)(it:cc ⟨p,[]⟩ w=some (1,[.d (.tuple [.int m,r2]),.d (.tuple [.int i,r])]))(q:Q (.d .none) p):aq B (n+1) "need_foremost" [.d r,w,.d (.int i)] p Q Z:=by
 refine .df hB 32 rfl rfl ?_;refine Wo.of it ?_;refine ⟨it,[("row",.d r),("n",.d (.int i))],⟨rfl,rfl,trivial⟩,?_⟩;refine Br.qQ (tr2.eqv tr|>.trans (Rm ne)) ?_;refine ⟨it,[("row",.d r),("n",.d (.int i))],⟨rfl,rfl,trivial⟩,?_⟩;refine Br.oj (tr.eqv tr|>.trans (Rc rfl)) ?_;exact Br.nn rfl q
theorem I3(h:40<=t/\t<=50)(hi:i=2*(t -40)+1\/i=2*(t -40)+2)(q:Q (.d .none) (hc F A b)):aq B (n+2) "need_own_field" [.s 21,.d (.int i)] (hc F A b) Q Z:=by
 have f1:fb (2*(t -40)+1):=qM (by assumption) (.inl rfl);have f2:fb (2*(t -40)+2):=qM (by assumption) (.inr rfl);have fi:fb i:=by rcases hi with rfl|rfl<;>assumption
 have ow:dN i=t:=sC (by assumption);refine .local (k:=12) (i:=0) (c:=.lst [t5 F (2*(t -40)+1),t5 F (2*(t -40)+2)]) rfl ?_ q
 have ne:mY F (2*(t -40)+1)≠mY F (2*(t -40)+2):=λz=>by
  have z:=(cE z).1;unfold da at z;rw [QR (by lia),QP (by lia)] at z;exact absurd (QQ (λd=>Rk d (sS "f")) z) (by decide+kernel)
 have fp:Hs.get ⟨(hc F A b).plus 12 0 (.lst [t5 F (2*(t -40)+1),t5 F (2*(t -40)+2)]),[]⟩ (.f 10 i)=some (.obj "FieldDef" (l9 F i)):=(vX (λz=>by injection z with a;exact absurd a (by decide))).trans (mc fi);refine .df hB 34 rfl rfl ?_;refine kz fi ?_;refine Wo.aF (mc fi) rfl ?_;refine aa ow ?_;refine jP h ?_;refine Wo.aF (ty_cell h) rfl ?_;refine Wo.of (qy h) ?_;refine ⟨qy h,kz f1 (Gd.of rfl (xM hB (mc f1) ?_))⟩;refine Gd.ok Cy ⟨qy h,kz f2 (Gd.of rfl (xM hB (mc f2) ?_))⟩;refine Gd.ok Cy ⟨qy h,.f 12 0,rfl,?_⟩;refine kz fi ?_;refine Gd.of rfl (xM hB fp ?_);rcases hi with rfl|rfl
 ·exact Gd.of rfl (Me hB pH B2 ⟨rfl,rfl⟩)
 ·exact Gd.of rfl (Md hB pH pH ne B2 ⟨rfl,rfl⟩)
end
section
variable{B:Bs}{F:Fx}{π:QI->Nat->Prop}{u:Nat}{L S:LS}{C:Ct}{b:QI}{t i:Int}{n:Nat}{ks:List X}{Q:W->HP->Prop}{Z:QI->QI->HP->Prop}{x:X}{l:List QI}(hB:aJ B)
include hB
theorem NW(fk:aE F)(hl:C.ks.length+16<ah)(g:GS F π u S C)(hx:aS C.ks x)(e:bc F C.ks x=.tuple [.int (tg F t),.int t,.tuple l])(hc:l.length=(F.ti t).count)(ht:40<=t/\t<=50)(fi:fb i)(ow:dN i=t){wd:QI}(q:Q (.d .none) (Internal.hc F (mk F L S C) b)):
  aq B (n+3) "check_use" [.s 21,.s 17,.d (.int (aw C.ks x)),.d (.int i),.d wd] (Internal.hc F (mk F L S C) b) Q Z:=by
 have t2:=jV F t;subst ow;refine .df hB 54 rfl rfl ?_;refine Br.ib (show¬i<=0 by have:=fi.1;lia) ?_;refine Br.ib (show¬23<=i by have:=fi.2;lia) ?_;refine kz fi ?_;refine kz fi ?_;refine Wo.aF (mc fi) rfl ?_;refine Gd.of rfl (zq hB hl g.K hx t2 e ?_);refine Br.nn rfl ?_;refine Gd.of rfl (yC hB hl g.K hx t2 e ?_);refine jP ht ?_;refine Wo.aF (ty_cell ht) rfl ?_;refine jZ fk ht ?_;exact Br.nn (QQ (λk:Nat=>(k:Int)) hc) q
structure kQ(F:Fx) ks i:Prop where
 has:aS ks (F.fx i)
 ix:F.fk i=aw ks (F.fx i)
 wx:Wx F (F.fx i)
 fu:(F.fx i).fu<=20
omit hB in
theorem GS.pinned{d:QI}{k:Nat}(g:GS F π u S C)(m:d∈C.aH)(h:Internal.ix C.aH d=k):GS F (λe j=>e=d/\j=k) u S C:={g with pin:=λe j z=>by refine aa z.1 (aa z.2 ?_);exact ⟨m,h⟩}
omit hB in
theorem GS.free(g:GS F π u S C):GS F (λ_ _=>False) u S C:={g with pin:=λ_ _ z=>z.elim}
def Ct.gT(C:Ct)(d:QI):Ct:={C with aH:=aT C.aH d}
omit hB in
theorem GS.gT{d:QI}(tr:Tr 25 d)(hu:u+1<=1000)(g:GS F π u S C):GS F π (u+1) S (C.gT d):=
 {g with
  sB:=λv q=>bV (g.sB v q)
  mB:=λx m=>⟨(g.mB x m).1,bV (g.mB x m).2⟩
  bT:=gU g.bT tr
  pin:=λd j z=>⟨bV (g.pin d j z).1,(lV (g.pin d j z).1).trans (g.pin d j z).2⟩
  len:=⟨⟨RQ g.len.1.1,RQ g.len.1.2.1,Ef g.len.1.2.2⟩,hu⟩}
omit hB in
theorem JT{d:QI}(g:GS F π u S C):(mk F L S C).gT d=mk F L S (C.gT d):=by
 have r:=pG g (bl:=aT C.aH d) (λ_ _=>rfl) (λx m=>lV m) λa m=>rfl;have e:dA F S C.texts (aT C.aH d)=dA F S C.texts C.aH:=by unfold dA;exact aa r.2.2.1 (aa r.2.2.2 rfl)
 refine (?_:Ab.mk _ _ _ _ _ _ _ _ _ (dA F S C.texts C.aH)=Ab.mk _ _ _ _ _ _ _ _ _ (dA F S C.texts (aT C.aH d)));refine aa e ?_;rfl
theorem O0(fk:aE F)(hl:ks.length+16<ah)(KK:a6 ks)(k:C.ks=ks)(g:GS F π u S C)(hu:u+1<=1000)(fi:fb i)(f:kQ F ks i)
  (q:Run (dZ F (F.fx i) S) (λd S'=>∀j:Nat,same S S'->eE F (λe j'=>e=.tuple [.int 6,d]/\j'=j) (u+1) L ks b (Q (.d (.int (j+1:Nat)))) S') λp S'=>eE F π (u+1) L ks b (Z p.1 p.2) S'):
  aq B (n+33) "field_blob" [.s 21,.d (.int i)] (hc F (mk F L S C) b) Q Z:=by
 have hf:(F.fx i).fu<=23:=QN f.fu (by decide);refine .df hB 52 rfl rfl ?_;refine ⟨_,AX,?_⟩;refine kz fi ?_;refine Wo.aF (mc fi) rfl ?_;refine Gd.of rfl (Eq.mpr (QQ (λk:Nat=>aq B (n+32) "sig_tree" [.s 21,.d (.int k)] _ _ _) f.ix) (zJ hB fk hl KK (F.fx i) f.wx (QN f.fu (QN (by decide) (Sd 25 n))) hf f.has g k ((jS (F.fx i) q).imp (λd S' z tr C1 k1 g1=>?_) λp S' z C' k' g'=>z C' k' (g'.more (RI u) hu))));have t6:=(cv ((Tr.int 6).more (Rr _)) tr).more (QU (QU hf));refine Gd.ok (t6.ok (by decide)) ?_;refine Gd.of rfl (zK hB t6 g1.bT (nB g1.ow.2.2) ?_);exact (QQ (λA=>Q (.d (.int (Internal.ix C1.aH (.tuple [.int 6,d])+1:Nat))) (hc F A b)) (JT g1)).mpr (z.2 _ z.1.2 (C1.gT _) k1 ((g1.gT t6 hu).pinned jy oO))
end
section
variable{B:Bs}{F:Fx}{π:QI->Nat->Prop}{u:Nat}{L S:LS}{C:Ct}{b:QI}{t i:Int}{n:Nat}{ks:List X}{Q:W->HP->Prop}{Z:QI->QI->HP->Prop}{x:X}{l:List QI}(hB:aJ B)
theorem th(k:C.ks=ks)(g:GS F π u S C)(hx:aS ks x):((x,i)∈S.used->a5 (cy 1 (mk F L S C).gi) (eZ ks (x,i))=some (.d (.int (1+ix S.used (x,i):Nat))))/\((x,i)∉S.used->eZ ks (x,i)∉(mk F L S C).gi):=by
 subst k
 have j:∀y∈S.used,eZ C.ks y=eZ C.ks (x,i)->y=(x,i):=λy m e=>by
  have e:=(RB (rJ e)).2;have e1:=xk g.K (g.uM y m) hx (qB (RB e).1);have e2:=cj _ _ (RB (RB e).2).1;exact aab e1 e2
 exact ⟨λm=>(lJ ((mem_map j).mpr m)).trans (QQ (λk:Nat=>some (W.d (.int (1+k:Nat)))) (lU j)),λm q=>m ((mem_map j).mp q)⟩
def Ct.use(C:Ct)(i:Int):Ct:=⟨C.ks,aT C.texts (cC i),C.aH,aT C.tabs 10⟩
theorem GS.use{d:QI}{q:Int}(m:(x,i)∉S.used)(hx:aS C.ks x)(md:.tuple [.int 6,d]∈C.aH)(hu:u+1<=1000)(g:GS F π u S C):GS F π (u+1) (S.use (x,i) q d) (C.use i):=
 {g with
  aM:=λb m=>⟨(g.aM b m).1,bV (g.aM b m).2⟩
  rM:=λt m=>⟨(g.rM t m).1,(g.rM t m).2.1,bV (g.rM t m).2.2⟩
  uN:=S7.mpr ⟨g.uN,RV _ _,λa ha b hb e=>m (by refine a9 (QW.mp hb) (a9 e ?_);exact ha)⟩
  uM:=λv q=>(RL.mp q).elim (g.uM v) λq=>(QW.mp q).symm▸hx
  uS:=by refine aa Q2 (aa Q2 (aa g.uS ?_));rfl
  mB:=λv q=>(RL.mp q).elim (λq=>⟨bV (g.mB v q).1,(g.mB v q).2⟩) λq=>(QW.mp q).symm▸⟨jy,md⟩
  tN:=jx g.tN
  tM:=gU g.tM (by unfold cC;by_cases h:i%2=1<;>simp [h,rG])
  gN:=jx g.gN
  gM:=gU g.gM (.tail _ (.tail _ (.tail _ (.head _))))
  jq:=uI
  jo:=λh=>g.jo λq=>h (bV q)
  g1:=λh=>g.g1 λq=>h (bV q)
  iA:=λh=>g.iA λq=>h (bV q)
  len:=⟨⟨RQ g.len.1.1,by refine aa Q2 ?_;exact QU g.len.1.2.1,RQ g.len.1.2.2⟩,hu⟩}
theorem JN{d:QI}{q:Int}(g:GS F π u S C):{bW ((mk F L S C).k4 (cC i)) 10 (eW C.texts C.aH (q,cC i,.tuple [.int 6,d])) with gi:=S.used.map (eZ C.ks)++[eZ C.ks (x,i)]}=mk F L (S.use (x,i) q d) (C.use i):=by
 have r:=pG g (tx:=aT C.texts (cC i)) (λx m=>lV m) (λ_ _=>rfl) λa m=>rfl
 have e:dA F (S.use (x,i) q d) (aT C.texts (cC i)) C.aH=λu=>if u=10 then dA F S C.texts C.aH 10++[eW C.texts C.aH (q,cC i,.tuple [.int 6,d])] else dA F S C.texts C.aH u:=by
  refine Wl ?_ Gk.symm;have e:eW (aT C.texts (cC i)) C.aH (q,cC i,.tuple [.int 6,d])=eW C.texts C.aH (q,cC i,.tuple [.int 6,d]):=QQ (λk:Nat=>RC [.int q,.int k,.int (ix C.aH (.tuple [.int 6,d])+1:Nat)]) oO;refine (?_:cN (S.aI.map _) (S.refs.map (r1 F S.aI _)) _ ((S.members++[(q,cC i,RC [.int 6,d])]).map _)=_);refine aa Rq (aa Th (aa e (aa r.1 (aa r.2.1 (aa r.2.2.2 ?_)))));rfl
 unfold mk Ct.use;refine aa e ?_;refine aa Rq ?_;rfl
theorem Nr{A:Ab}{row row' x:QI}{k:Nat}{P:HP->Prop}(e:row'=row)(m:x∉A.gi)(ek:k=A.gi.length+1)(q:P (hc F {bW A 10 row with gi:=A.gi++[x]} b)):
  P ⟨upd (hc F (bW A 10 row') b).s 40 (some (.aj 3 (bX (cy 1 A.gi) x (.d (.int k))))),(hc F (bW A 10 row') b).f,(hc F (bW A 10 row') b).g⟩:=by
 subst e;refine aa (sT m ek) ?_;exact q
theorem E4(k:C.ks=ks)(g:GS F π u S C){P:HP->Prop}{d:QI}{q:Int}(h:P (hc F (mk F L (S.use (x,i) q d) (C.use i)) b)):P (hc F {bW ((mk F L S C).k4 (cC i)) 10 (eW C.texts C.aH (q,cC i,.tuple [.int 6,d])) with gi:=(mk F L S C).gi++[eZ ks (x,i)]} b):=by
 subst k;exact (QQ (λA=>P (hc F A b)) (JN g)).mpr h
theorem Ay{ok:Int->LS->Prop}{er:QI×QI->LS->Prop}(h:Run (lE F x S) ok er):Run (lE F x S) (λk S'=>S'.used=S.used/\ok k S') er:=by
 have px:Run (hV F x S) ok er->Run (hV F x S) (λk S'=>S'.used=S.used/\ok k S') er:=by
  unfold hV;by_cases m:x∈S.owners
  ·refine aa (QR m) ?_;exact λh=>⟨rfl,h⟩
  ·refine aa (QP m) ?_
   intro h;have h:=jS x (Run.bind h);revert h;unfold R.bind Run
   cases (dZ F x S).1 with
   |error _=>exact id
   |ok d=>exact λh=>⟨h.1.2.2,h.2⟩
 cases x with
 |c0 t=>
  have h:=ui (Run.bind h);revert h;refine (?_:Run _ _ _->Run ((bp F t).bind _ S) _ _);unfold R.bind Run
  cases (bp F t S).1 with
  |error _=>exact id
  |ok d=>exact λh=>⟨h.1.2.2,h.2⟩
 |_=>exact px h
include hB
theorem PS(fk:aE F)(hl:ks.length+16<ah)(KK:a6 ks)(k:C.ks=ks){d:QI}{j:Nat}(g:GS F (λe j'=>e=.tuple [.int 6,d]/\j'=j) u S C)(hu:u+2<=1000)(hx:aS ks x)(w:Wx F x)(c:x.cls)(hf:x.fu<=23)(m:(x,i)∉S.used)
  (q:Run (lE F x S) (λk S'=>eE F (λ_ _=>False) (u+2) L ks b (Q (.d .none)) (S'.use (x,i) k d)) λp S'=>eE F (λ_ _=>False) (u+2) L ks b (Z p.1 p.2) S'):
  aq B (n+33) "add_member" [.s 21,.d (eZ ks (x,i)),.d (.int (aw ks x)),.d (.str (cC i)),.d (.int (j+1:Nat))] (hc F (mk F L S C) b) Q Z:=by
 refine .df hB 53 rfl rfl ?_;refine Gd.of rfl (IL hB fk hl KK k g (Ry hu) hx w c hf ((Ay q).imp (λk S' z C1 k1 g1=>?_) λp S' z C' k' g'=>z C' k' (g'.free.more (RI _) hu)));have m1:=z.1▸m;have pin:=g1.pin _ _ ⟨rfl,rfl⟩;have lo:(mk F L S' C1).gi.length+2<ah:=(QX _).symm▸nB g1.ow.2.1;have lt:=(QX (eW C1.texts C1.aH)).symm▸nB (g1.uS▸g1.ow.2.1);refine ⟨_,tc,?_⟩;refine ⟨_,ta,?_⟩;refine Gd.of rfl (vt hB (tv (QN g1.tx (by decide))) ?_);refine Gd.of rfl (uH hB (λt=>QQ (W3 _) (g1.jq t)) (QO g1.tb (by decide+kernel)) (Rh lt) ?_);refine Gd.lim (nh.symm▸Rh (Rh lo)) ?_;have er:RC [.int k,.int (ix C1.texts (cC i):Nat),.int (j+1:Nat)]=eW C1.texts C1.aH (k,cC i,.tuple [.int 6,d]):=by unfold eW;exact aa pin.2 rfl
 exact Nr er ((th (L:=L) k1 g1 hx).2 m1) (QQ TX ((QX _).trans (g1.uS.trans (QX _).symm))) (E4 k1 g1 (z.2 (C1.use i) k1 (g1.use m1 (k1.symm▸hx) pin.1 hu).free))
end
section
variable{B:Bs}{F:Fx}{π:QI->Nat->Prop}{u:Nat}{L S:LS}{C:Ct}{b:QI}{t i:Int}{n:Nat}{ks:List X}{Q:W->HP->Prop}{Z:QI->QI->HP->Prop}{x:X}{l:List QI}(hB:aJ B)
def CB(ks:List X)(x:X)(i:Int):Ro:=[("p",.s 21),("fref",.d (.tuple [.int (aw ks x),.int i])),("owner",.d (.int (aw ks x))),("fid",.d (.int i))]
theorem s7:da i=.str (cC i):=by unfold da cC;by_cases h:i%2=1<;>simp [h,sS]
theorem A1:aP (eZ ks (x,i))=true:=(Tr.tup (l:=[sS "f",.int (aw ks x),.int i]) (λy m=>by
 rcases QZ.mp m with rfl|m
 ·exact Tr.str (by decide+kernel)
 rcases QZ.mp m with rfl|m
 ·exact Tr.int _
 ·exact QW.mp m▸Tr.int _) (by decide:3<=1000)).ok (by decide)
theorem Kl{P:Nat->Prop}{k:Nat}(a:P 0)(b:P 1)(c:P 2)(d:P 3)(e:P 4)(f:P 5)(h:k<6):P k:=by
 rcases k with _|_|_|_|_|_|k
 ·exact a
 ·exact b
 ·exact c
 ·exact d
 ·exact e
 ·exact f
 ·exact absurd h (Nat.not_lt_of_le (Sd 6 k))
theorem Ma(h:17<=i)(h':i<=22):∃k:Nat,i=16+k/\k<16777216/\a5 (iD [(17,1),(18,2),(19,3),(20,4),(21,5),(22,6)]) (.int i)=some (.d (.int k)):=by
 obtain ⟨k,rfl⟩:=Ue h;have hk:k<6:=R5.mp (SE (Wy (show(17:Int)+k<=17+5 from h')) (by decide));exact ⟨k+1,by lia,Rt (UI hk) (by decide),Kl (P:=λk=>a5 (iD [(17,1),(18,2),(19,3),(20,4),(21,5),(22,6)]) (.int (17+(k:Int)))=some (.d (.int (k+1:Nat)))) rfl rfl rfl rfl rfl rfl hk⟩
theorem Mb(h:i<17):a5 (iD [(17,1),(18,2),(19,3),(20,4),(21,5),(22,6)]) (.int i)=none:=tW λp m e=>by
 have a:=Q0 (Rp.mp (show([(17,1),(18,2),(19,3),(20,4),(21,5),(22,6)]:List (Int×Int)).all (λp=>decide (17<=p.1))=true by decide) p m);exact absurd h (Tf.mpr (e▸a))
include hB
theorem CA(k:C.ks=ks)(g:GS F π u S C)(hx:aS ks x)(m:(x,i)∈S.used)(q:Q (.d (.int (167772161+ix S.used (x,i):Nat))) (hc F (mk F L S C) b)){ρ:Ro}:aD (Ss.dr 5 yl.body) (aL B (n+2) (CB ks x i++("key",.d (eZ ks (x,i)))::ρ) Z) ⟨hc F (mk F L S C) b,[]⟩ (bO Q):=by
 have e:10*16777216+(1+ix S.used (x,i))=167772161+ix S.used (x,i):=by(rewrite [←SO];rfl)
 refine Wo.cI ((th k g hx).1 m) ?_;exact Gd.of rfl (qj hB (by decide) (QO (Rj (QN fJ g.ow.2.1) 1) (by decide)) ((QQ (λk:Nat=>Q (.d (.int k)) (hc F (mk F L S C) b)) e).mpr q))
theorem L8(fk:aE F)(hl:ks.length+16<ah)(KK:a6 ks)(k:C.ks=ks)(g:GS F π u S C)(hu:u+3<=1000)(hx:aS ks x)(w:Wx F x)(c:x.cls)(hf:x.fu<=23)(ht:40<=t/\t<=50)(hi:i=2*(t -40)+1\/i=2*(t -40)+2)(f:kQ F ks i)(hb:¬big x)
  (q:yM F (λ_ _=>False) (u+3) L ks b (λk=>Q (.d (.int k))) Z (f7 F x i S)):aD (Ss.dr 3 yl.body) (aL B (n+34) (CB ks x i) Z) ⟨hc F (mk F L S C) b,[]⟩ (bO Q):=by
 have fi:fb i:=qM (by assumption) (by assumption);unfold f7 at q;rw [QP hb] at q;by_cases m:(x,i)∈S.used
 ·rw [QR m] at q
  refine Gd.ok A1 ?_;refine Br.no (pV ((th k g hx).1 m)) ?_;exact CA hB k g hx m (q C k (g.free.more (Ra ..) hu))
 ·rw [QP m] at q
  have r:=Run.bind q;refine Gd.ok A1 ?_;refine Br.yes (nu (ng ((th k g hx).2 m))) ?_;refine Gd.of rfl (I3 hB ht hi ?_);refine kz fi ?_;refine Wo.aF (mc fi) rfl ?_;refine Gd.of rfl (O0 hB fk hl KK k g (Ry (Ry hu)) fi f (r.imp (λd S' z j sm C1 k1 g1=>?_) λp S' z C' k' g'=>z C' k' (g'.free.more (Rj (by decide) u) hu)));have r:=Run.bind z;refine aa s7 ?_;refine Gd.of rfl (PS hB fk hl KK k1 g1 hu hx w c hf (sm.2▸m) ((Ay r).imp (λj2 S2 z C2 k2 g2=>?_) λp S' z=>z));have m':=z.1▸sm.2▸m;have e:ix (S2.use (x,i) j2 d).used (x,i)=ix S2.used (x,i):=(jk m').trans (kb m').symm;exact CA hB k2 g2 hx (RN _ (.head _)) (e.symm▸z.2 C2 k2 g2)
theorem Mw(fk:aE F)(hl:ks.length+16<ah)(KK:a6 ks)(k:C.ks=ks)(g:GS F π u S C)(hu:u+3<=1000)(hx:aS ks x)(w:Wx F x)(c:x.cls)(hf:x.fu<=23)(ht:40<=t/\t<=50)(hi:i=2*(t -40)+1\/i=2*(t -40)+2)(f:kQ F ks i)
  (e:bc F ks x=.tuple [.int (tg F t),.int t,.tuple l]) (hc:l.length=(F.ti t).count) (hb:big x↔47<t/\l=[]) (q:yM F (λ_ _=>False) (u+3) L ks b (λk=>Q (.d (.int k))) Z (f7 F x i S)):aq B (n+35) "field_token" [.s 21,.d (.tuple [.int (aw ks x),.int i])] (Internal.hc F (mk F L S C) b) Q Z:=by
 have fi:fb i:=qM (by assumption) (by assumption);have ow:dN i=t:=sC (by assumption)
 have ck:∀{Q:W->HP->Prop},Q (.d .none) (Internal.hc F (mk F L S C) b)->aq B (n+34) "check_use" [.s 21,.s 17,.d (.int (aw ks x)),.d (.int i),.d (sS "field")] (Internal.hc F (mk F L S C) b) Q Z:=by
  intro Q q';subst k;exact NW hB fk hl g hx e hc ht fi ow q'
 have tail:=L8 (n:=n) hB fk hl KK k g hu hx w c hf ht hi f (q:=q)
 have pl:∀{v:Bool},((l.length:Int)==0)=v->∀{Q:W->HP->Prop},Q (.d (.bool v)) (Internal.hc F (mk F L S C) b)->aq B (n+34) "is_plain" [.s 21,.d (.int (aw ks x))] (Internal.hc F (mk F L S C) b) Q Z:=by
  intro v hv Q q';subst k;exact vY hB hl g hx e hv q'
 refine .df hB 55 rfl rfl ?_;refine Gd.of rfl (ck ?_);by_cases h8:47<t
 ·obtain ⟨j,rfl,hj,ej⟩:=Ma (i:=i) (by lia) (by lia)
  refine Br.yes (Co ej) ?_
  cases l with
  |nil=>
   refine Gd.of rfl (pl rfl ?_);have ed:f7 F x (16+j) S=(.ok (4*16777216+j:Nat),S):=(QR (hb.mpr ⟨h8,rfl⟩)).trans (QQ (λk:Int=>(agh k,S)) (by lia));rw [ed] at q;refine Wo.cI ej ?_;exact Gd.of rfl (qj hB (by decide) hj (q C k (g.free.more (Ra ..) hu)))
  |cons a l=>
   refine Gd.of rfl (pl rfl ?_);exact tail λz=>nomatch(hb.mp z).2
 ·refine Br.no (n5 (Mb (by lia))) ?_
  exact tail λz=>h8 (hb.mp z).1
end
theorem uG{l:List QI}:fm (dW l)=some l:=by
 induction l with
 |nil=>rfl
 |cons x l ih=>show(fm (dW l)).map _=_;refine aa ih ?_;rfl
theorem Cj{l:List Int}:iW l=dW (l.map .int):=(Ui ..).symm
theorem rg{k:Nat}{x:QI}(tx:Tr k x){l:List QI}:(∀y∈l,Tr k y)->(l.any λy=>Rk y x)=decide (x∈l):=by
 induction l with
 |nil=>exact λ_=>(Rm λm=>nomatch m).symm
 |cons y l ih=>
  intro h
  (refine aa aao (aa ((h y (.head _)).eqv tx) (aa (ih λz m=>h z (.tail _ m)) ?_));rewrite [←Bool.decide_or])
  exact decide_eq_decide.mpr ⟨λq=>q.elim (λe=>e▸.head _) (.tail _),λm=>(QZ.mp m).imp_left Eq.symm⟩
theorem qK{k:Nat}{x:QI}(tx:Tr k x){l:List QI}:(∀y∈l,Tr k y)->x∈l->(l.findIdx? λy=>Rk y x)=some (ix l x):=by
 induction l with
 |nil=>exact λ_ m=>nomatch m
 |cons y l ih=>
  intro h m;unfold ix;refine aa (Ys) (aa ((h y (.head _)).eqv tx) (aa Uq ?_));by_cases e:y=x
  ·refine aa (Rc e) (aa (Q6.mpr e) ?_);rfl
  ·refine aa (Rm e) (aa (Q3.mpr e) (aa (ih (λz m=>h z (.tail _ m)) ((QZ.mp m).resolve_left (UG e))) ?_));rfl
theorem nU{l:List Int}:∀y∈l.map RM,Tr 0 y:=λy m=>(Su.mp m).elim λi e=>e.2▸Tr.int i
theorem Wo.d5{h:Hs}{k:Nat}{ds:List QI}{x:QI}{Q:Bool->Prop}{c:Bool}(e:h.get (.s k)=some (.lst (dW ds)))(a:(ds.any λy=>Rk y x)=c)(q:Q (!c)):Wo (kB h .NotIn (.d x) (.s k)) Q:=by
 have e2:kB h .NotIn (.d x) (.s k)=some (!c):=by
  refine (?_:(qE h (.d x) (.s k)).map _=_);unfold qE;refine aa e ?_;refine (?_:((fm (dW ds)).map _).map _=_);refine aa uG (a9 a ?_);rfl
 exact .of e2 q
theorem Wo.fix{h:Hs}{v:W}{ds:List QI}{x:QI}{k:Nat}{Q:Nat->Prop}(e:h.get v=some (.lst (dW ds)))(f:(ds.findIdx? λz=>Rk z x)=some k)(q:Q k):Wo ((some x).bind λx=>((d6 (h.get v)).bind fm).bind λys=>ys.findIdx? λz=>Rk z x) Q:=.of (by refine aa e ?_;refine (?_:((fm (dW ds)).bind _)=_);refine aa uG ?_;exact f) q
section
variable{B:Bs}{F:Fx}{A:Ab}{b:QI}{t i:Int}{n:Nat}{Q:W->HP->Prop}{Z:QI->QI->HP->Prop}(hB:aJ B)
noncomputable def Ab.wL(A:Ab)(S:LS):Ab:={A with L:=S}
noncomputable def eA(p:QI×QI):QI:=.tuple [p.1,p.2]
noncomputable def bA:QI:=.tuple []
include hB
theorem qo{wd:Str}(ok:TU wd=true)(q:Q (.d (.int 0)) (hc F A (.tuple [.str wd,.int i]))):aq B (n+1) "_law_fail" [.s 6,.d (.str wd),.d (.int i)] (hc F A b) Q Z:=by
 refine .df hB 61 rfl rfl ?_;refine Gd.ok ((cv (Tr.str ok) (Tr.int i)).ok (by decide)) ?_;exact q
omit hB in
theorem uC{tl:List af}:Hs.get ⟨hc F A b,tl⟩ (.s 9)=some (.lst (dW (A.L.aI.map .int))):=QQ (λl=>some (af.lst l)) Cj
def Ej{α:Type}(F:Fx)(A:Ab)(f:α->QI)(Q:W->HP->Prop)(g:Except (QI×QI) α×LS):Prop:=Run g (λa S=>Q (.d (f a)) (hc F (A.wL S) bA)) λp S=>Q (.d (.int 0)) (hc F (A.wL S) (eA p))
theorem QA{p:QI×QI}(q:Q (.d (.int 0)) (hc F A (eA p))):aq B (n+2) "_law_asm" [.s 6,.d (.int i)] (hc F A (eA p)) Q Z:=.df hB 62 rfl rfl q
omit hB in
theorem BE(m:i∈A.L.aI)(hl:A.L.aI.length<ah)(q:Q (.d (.int (1+ix A.L.aI i:Nat))) (hc F A bA)):aD (Ss.dr 3 xh.body) (aL B (n+1) [("w",.s 6),("asm",.d (.int i))] Z) ⟨hc F A bA,[]⟩ (bO Q):=by
 have il:=(qK (Tr.int i) nU (de.2.mpr m)).trans (QQ some de.1);refine Wo.fix (uC) il ?_;exact Gd.lim (QO fJ hl) q
theorem BF(hl:A.L.aI.length+1<ah)(q:Ej F A (λk:Int=>.int k) Q (iL i A.L)):aq B (n+2) "_law_asm" [.s 6,.d (.int i)] (hc F A bA) Q Z:=by
 have e3:([RM 0,.int 1,.int 3].any λy=>Rk y (.int i))=decide (dy i):=(rg (Tr.int i) (nU (l:=[0,1,3]))).trans (decide_eq_decide.mpr (by unfold dy;simp));unfold iL at q;refine .df hB 62 rfl rfl ?_;by_cases h:dy i
 ·rw [QR h] at q
  refine Br.no (by refine aa e3 (aa (Rc h) ?_);rfl) ?_;have tl:=rg (Tr.int i) (nU (l:=A.L.aI));by_cases m:i∈A.L.aI
  ·refine Wo.d5 (uC) (tl.trans (Rc (de.2.mpr m))) ?_
   rw [LS.yA m] at q;exact BE m (Rh hl) q
  ·refine Wo.d5 (uC) (tl.trans (Rm λz=>m (de.2.mp z))) ?_
   refine Gd.lim (dU.symm▸Rh hl) ?_;rw [LS.Eb m] at q;have e:=QQ (1+·) ((jk m).trans (kb m).symm);have t:=BE (n:=n) (Z:=Z) (A:=A.wL {A.L with aI:=A.L.aI++[i]}) (B:=B) (RN _ (.head _)) (by refine aa Q2 ?_;exact hl) (e.symm▸q);exact (QQ (λl=>aD (Ss.dr 3 xh.body) (aL B (n+1) [("w",.s 6),("asm",.d (.int i))] Z) ⟨⟨upd (hc F A bA).s 9 (some (.lst l)),(hc F A bA).f,(hc F A bA).g⟩,[]⟩ (bO Q)) nZ).mpr t
 ·rw [QP h] at q
  refine Br.yes (by refine aa e3 (aa (Rm h) ?_);rfl) ?_;exact Gd.of rfl (qo hB (by decide+kernel) q)
end
section
variable{B:Bs}{F:Fx}{A:Ab}{b:QI}{t i:Int}{n:Nat}{Q:W->HP->Prop}{Z:QI->QI->HP->Prop}(hB:aJ B)
theorem Mt{K:Kw}(hu:40<=i/\i<=50)(ht:40<=t/\t<=50)(no:¬iB F t i->K.ay [("w",.s 6),("tid",.d (.int t)),("other",.d (.int i))] ⟨hc F A b,[]⟩)(yes:iB F t i->K.ret (.d (.int i)) (hc F A b)):
  aD (Ss.bd 0 tH.body) (aL B n [("w",.s 6),("tid",.d (.int t)),("other",.d (.int i))] Z) ⟨hc F A b,[]⟩ K:=by
 refine Wo.cI (fz hu) ?_;refine Wo.cI (fz ht) ?_;by_cases hk:(F.ti i).key=(F.ti t).key
 ·refine Br.oj (tO.trans (Rc hk)) ?_
  refine Wo.cI (fz hu) ?_;by_cases h0:(F.ti i).bB=0
  ·exact Br.ey h0 (yes ⟨hk,h0⟩)
  ·exact Br.en h0 (no λz=>h0 z.2)
 ·exact Br.qQ (tO.trans (Rm hk)) (no λz=>hk z.1)
include hB
theorem KN(ht:40<=t/\t<=50)(q:Q (.d (.int (bY F t bU))) (hc F A b)):aq B (n+1) "_law_first" [.s 6,.d (.int t)] (hc F A b) Q Z:=by
 refine .df hB 63 rfl rfl ?_;refine (?_:bI gF (mF "other") (bS (aD (Ss.bd 0 tH.body)) (eQ B n Z)) ⟨Sq (aD (Ss.dr 1 tH.body)) (eQ B n Z) (bO Q),Q,kF⟩ (bU.map λi=>.d (.int i)) [("w",.s 6),("tid",.d (.int t))] ⟨hc F A b,[]⟩);refine mM rfl (λ_ _=>rfl) (λl ρ=>(∀u∈l,40<=u/\u<=50)/\bY F t l=bY F t bU/\bz [("w",.s 6),("tid",.d (.int t))] ρ) ?_ ?_ bU _ ?_
 ·exact λρ j=>⟨trivial,_,j.2.2,(j.2.1▸q:Q (.d (.int (bY F t []))) (hc F A b))⟩
 ·exact λi l ρ ih j=>⟨trivial,_,j.2.2,Mt (j.1 i (.head _)) ht (λz=>ih _ ⟨λu m=>j.1 u (.tail _ m),(QP z).symm.trans j.2.1,rfl,rfl,trivial⟩) λz=>((QR z).symm.trans j.2.1:i=bY F t bU)▸q⟩
 ·exact ⟨by decide,rfl,rfl,rfl,trivial⟩
omit hB in
theorem vK{tl:List af}:Hs.get ⟨hc F A b,tl⟩ (.s 10)=some (.lst (dW (A.L.refs.map .int))):=QQ (λl=>some (af.lst l)) Cj
omit hB in
theorem J7{g:Int->W}{l:List Int}(m:t∉l):a5 (l.map λt=>(.int t,g t)) (.int t)=none:=by
 induction l with
 |nil=>rfl
 |cons a l ih=>exact aa Ut (aa dE (aa (QP λe=>m ((cj _ _ e:a=t)▸.head _)) (aa (ih λq=>m (.tail _ q)) rfl)))
omit hB in
theorem Fb(h:¬(40<=t/\t<=50)):a5 (iZ F) (.int t)=none:=J7 λm=>h ((by decide:∀u∈Internal.dz,40<=u/\u<=50) t m)
omit hB in
theorem BB(m:t∈A.L.refs)(hl:A.L.refs.length<ah)(q:Q (.d (.int (16777217+ix A.L.refs t:Nat))) (hc F A b)):aD (Ss.dr 4 xg.body) (aL B (n+1) [("w",.s 6),("tid",.d (.int t))] Z) ⟨hc F A b,[]⟩ (bO Q):=by
 have il:=(qK (Tr.int t) nU (de.2.mpr m)).trans (QQ some de.1);refine Wo.fix (vK) il ?_;exact Gd.lim (QO fJ hl) q
theorem KR{K:Kw}(fk:aE F)(ht:40<=t/\t<=47)(hl:A.L.aI.length+1<ah)(hr:A.L.refs.length+1<ah)(f0:(F.ti t).bB≠0->K.ret (.d (.int 0)) (hc F A (eA (bad "home" t))))(f1:(F.ti t).bB=0->bY F t bU≠t\/1<(F.ti t).name.length->K.ret (.d (.int 0)) (hc F A (eA (bad "twice" t))))
  (q:(F.ti t).bB=0->¬(bY F t bU≠t\/1<(F.ti t).name.length)->K.ay [("w",.s 6),("tid",.d (.int t))] ⟨hc F (A.wL (A.L.ref F t)) bA,[]⟩):aD (Ss.bd 3 xg.body) (aL B (n+2) [("w",.s 6),("tid",.d (.int t))] Z) ⟨hc F A bA,[]⟩ K:=by
 have h5:=bF ht;have ea:iL (F.ti t).aQ A.L=(.ok (1+ix A.L.aI (F.ti t).aQ:Nat),A.L.aQ (F.ti t).aQ):=QR (fk.aQ t ht);have hn:(F.ti t).name.length<ah:=by rcases fk.name t h5 with e|e|e<;>refine aa e ?_<;>decide+kernel
 refine Wo.cI (fz h5) ?_;by_cases h0:(F.ti t).bB=0
 ·refine Br.nn h0 ?_
  refine Gd.of rfl (KN hB h5 ?_);by_cases hf:bY F t bU=t
  ·refine Br.nn hf ?_
   refine Wo.cI (fz h5) ?_;refine Wo.len hn ?_;by_cases h1:1<(F.ti t).name.length
   ·refine Br.lt (R5.mpr h1) ?_
    exact Gd.of rfl (qo hB (by decide+kernel) (f1 h0 (.inr h1)))
   ·refine Br.h9 (λz=>h1 (R5.mp z)) ?_
    refine Wo.cI (fz h5) ?_;refine Gd.of rfl (BF hB hl ?_);refine aa ea ?_;refine Gd.lim (dU.symm▸Rh hr) ?_;exact (QQ (λl=>K.ay [("w",.s 6),("tid",.d (.int t))] ⟨⟨upd (hc F (A.wL (A.L.aQ (F.ti t).aQ)) bA).s 10 (some (.lst l)),(hc F A bA).f,(hc F A bA).g⟩,[]⟩) nZ).mpr (q h0 λz=>z.elim (λz=>z hf) h1)
  ·refine Br.ny hf ?_
   exact Gd.of rfl (qo hB (by decide+kernel) (f1 h0 (.inl hf)))
 ·refine Br.ny h0 ?_
  exact Gd.of rfl (qo hB (by decide+kernel) (f0 h0))
theorem KS{p:QI×QI}(q:Q (.d (.int 0)) (hc F A (eA p))):aq B (n+3) "_law_def" [.s 6,.d (.int t)] (hc F A (eA p)) Q Z:=.df hB 64 rfl rfl q
theorem BC(fk:aE F)(hl:A.L.aI.length+1<ah)(hr:A.L.refs.length+1<ah)(q:Ej F A (λk:Int=>.int k) Q (bp F t A.L)):aq B (n+3) "_law_def" [.s 6,.d (.int t)] (hc F A bA) Q Z:=by
 unfold bp at q;refine .df hB 64 rfl rfl ?_;by_cases h5:40<=t/\t<=50
 ·rw [QP λz=>z h5] at q
  refine Br.no (pV (fz h5)) ?_;by_cases h8:47<t
  ·rw [QR h8] at q
   exact Br.lt h8 q
  have h7:40<=t/\t<=47:=⟨h5.1,Tf.mp h8⟩;have tl:=rg (Tr.int t) (nU (l:=A.L.refs));rw [QP h8] at q;refine Br.h9 h8 ?_;by_cases m:t∈A.L.refs
  ·rw [QR m] at q
   refine Wo.d5 (vK) (tl.trans (Rc (de.2.mpr m))) ?_;exact BB m (Rh hr) q
  ·rw [QP m] at q
   refine Wo.d5 (vK) (tl.trans (Rm λz=>m (de.2.mp z))) ?_;refine KR hB fk h7 hl hr (λz=>?_) (λz z'=>?_) λz z'=>?_
   ·rw [QR z] at q;exact q
   ·rw [QP λn=>n z,QR z'] at q;exact q
   ·rw [QP λn=>n z,QP z'] at q
    have e:=QQ (16777217+·) ((jk m).trans (kb m).symm);exact BB (RN _ (.head _)) (by refine aa Q2 ?_;exact hr) (e.symm▸q)
 ·rw [QR h5] at q
  refine Br.yes (nu (Fb h5)) ?_;exact Gd.of rfl (qo hB (by decide+kernel) q)
end
structure LI(S:LS):Prop where
 aN:S.aI.Nodup
 aM:∀a∈S.aI,dy a
 rN:S.refs.Nodup
 rM:∀t∈S.refs,40<=t/\t<=47
section
variable{B:Bs}{F:Fx}{A:Ab}{b:QI}{t i:Int}{n:Nat}{Q:W->HP->Prop}{Z:QI->QI->HP->Prop}{S:LS}(hB:aJ B)
theorem LI.as(l:LI S):S.aI.length+1<ah:=QO (QU (nw (m:=[0,1,3]) l.aN λa m=>by rcases l.aM a m with rfl|rfl|rfl<;>simp)) (by decide+kernel)
theorem LI.rf(l:LI S):S.refs.length+1<ah:=QO (QU (nw l.rN λt m=>BI (l.rM t m))) (by decide+kernel)
theorem LI.aQ(l:LI S)(h:dy i):LI (S.aQ i):={l with aN:=jx l.aN,aM:=gU l.aM h}
theorem LI.ref(l:LI S)(fk:aE F)(h:40<=t/\t<=47)(m:t∉S.refs):LI (S.ref F t):=
 {l.aQ (fk.aQ t h) with
  rN:=S7.mpr ⟨l.rN,RV _ _,λa ha b hb e=>m (by refine a9 (QW.mp hb) (a9 e ?_);exact ha)⟩
  rM:=λv q=>(RL.mp q).elim (l.rM v) λq=>(QW.mp q).symm▸h}
theorem Dq(fk:aE F)(l:LI S){ok:Int->LS->Prop}{er:QI×QI->LS->Prop}(h:Run (bp F t S) (λa S'=>LI S'->ok a S') (λp S'=>LI S'->er p S')):Run (bp F t S) ok er:=by
 revert h;unfold bp;by_cases a:¬(40<=t/\t<=50)
 ·refine aa (QR a) ?_;exact λh=>h l
 refine aa (QP a) ?_;by_cases c:47<t
 ·refine aa (QR c) ?_;exact λh=>h l
 refine aa (QP c) ?_;by_cases d:t∈S.refs
 ·refine aa (QR d) ?_;exact λh=>h l
 refine aa (QP d) ?_;by_cases e:(F.ti t).bB≠0
 ·refine aa (QR e) ?_;exact λh=>h l
 refine aa (QP e) ?_;by_cases f:bY F t bU≠t\/1<(F.ti t).name.length
 ·refine aa (QR f) ?_;exact λh=>h l
 ·refine aa (QP f) ?_;exact λh=>h (l.ref fk ⟨(Decidable.not_not.mp a).1,Tf.mp c⟩ d)
abbrev bk:=LS×Option (QI×QI)
def Pa(o:Option (QI×QI)):QI:=o.rec bA eA
def hS(F:Fx)(A:Ab)(s:bk):HP:=hc F (A.wL s.1) (Pa s.2)
def b0(F:Fx)(t:Int)(s:bk):Int×bk:=s.2.rec ((bp F t s.1).1.rec (λp=>(0,(bp F t s.1).2,some p)) λk=>(k,(bp F t s.1).2,none)) λ_=>(0,s)
noncomputable def aY(F:Fx):X->bk->QI×bk
 |.p i,s=>(.tuple [.int (As i)],s)
 |.arr x,s=>(.tuple [.int 29,(aY F x s).1],(aY F x s).2)
 |.var i,s=>(.tuple [.int 19,.int i],s)
 |.c0 t,s=>(.tuple [.int (elt F t),.int (b0 F t s).1],(b0 F t s).2)
 |.c1 t a,s=>(.tuple [.int 21,.int (elt F t),.int (b0 F t s).1,.tuple [(aY F a (b0 F t s).2).1]],(aY F a (b0 F t s).2).2)
 |.c2 t a b,s=>(.tuple [.int 21,.int (elt F t),.int (b0 F t s).1,.tuple [(aY F a (b0 F t s).2).1,(aY F b (aY F a (b0 F t s).2).2).1]],(aY F b (aY F a (b0 F t s).2).2).2)
theorem nG(fk:aE F){s:bk}(l:LI s.1):LI (b0 F t s).2.1:=by
 obtain ⟨S,o⟩:=s
 cases o with
 |some p=>exact l
 |none=>
  have h:=Dq fk l (by unfold Run;cases (bp F t S).1<;>exact id);revert h;refine (?_:Run _ _ _->LI (Vz (motive:=λ_=>Int×bk) _ _ (bp F t S).1).2.1);unfold Run
  cases (bp F t S).1<;>exact id
theorem jh(fk:aE F):∀(x:X){s:bk},LI s.1->LI (aY F x s).2.1
 |.p _,_,l|.var _,_,l=>l
 |.arr x,_,l=>jh fk x l
 |.c0 _,_,l=>nG fk l
 |.c1 _ a,_,l=>jh fk a (nG fk l)
 |.c2 _ a b,_,l=>jh fk b (jh fk a (nG fk l))
theorem gP:∀(x:X){s:bk},Tr (x.fu+1) (aY F x s).1
 |.p _,_=>i6 (Tr.int _)
 |.var _,_|.c0 _,_=>cv (Tr.int _) (Tr.int _)
 |.arr x,_=>cv ((Tr.int 29).more (Rr _)) (gP x)
 |.c1 _ a,_=>mQ (i6 (gP a))
 |.c2 _ a b,_=>mQ (cv ((gP a).more (QU (TR ..))) ((gP b).more (QU (TC ..))))
include hB
theorem BD(fk:aE F){s:bk}(l:LI s.1)(q:Q (.d (.int (b0 F t s).1)) (hS F A (b0 F t s).2)):aq B (n+3) "_law_def" [.s 6,.d (.int t)] (hS F A s) Q Z:=by
 obtain ⟨S,o⟩:=s
 cases o with
 |some p=>exact KS hB q
 |none=>
  refine BC (A:=A.wL S) hB fk l.as l.rf ?_;revert q;refine (?_:Q (.d (.int (Vz (motive:=λ_=>Int×bk) _ _ (bp F t S).1).1)) (hS F A (Vz (motive:=λ_=>Int×bk) _ _ (bp F t S).1).2)->Vz _ _ (bp F t S).1)
  cases (bp F t S).1<;>exact id
theorem wU(fk:aE F){s:bk}(l:LI s.1)(h5:40<=t/\t<=50){xs:List QI}(h:aD (Ss.dr 5 BJ.body) (aL B (n+3) [("w",.s 6),("x",.d (.tuple (.int t::xs))),("token",.d (.int (b0 F t s).1)),("element",.d (.int (elt F t)))] Z) ⟨hS F A (b0 F t s).2,[]⟩ (bO Q)):aq B (n+4) "_law_tree" [.s 6,.d (.tuple (.int t::xs))] (hS F A s) Q Z:=by
 unfold elt at h;refine .df hB 65 rfl rfl ?_;refine Br.en (dD h5.1 (by decide)) (Br.en (dD h5.1 (by decide)) (Br.en (dD h5.1 (by decide)) ?_));refine Gd.of rfl (BD hB fk l ?_);refine Wo.cI (fz h5) ?_;by_cases e:(F.ti t).struct=0
 ·rw [QR e] at h
  exact Br.nn e h
 ·rw [QP e] at h
  exact Br.ny e h
end
section
variable{B:Bs}{F:Fx}{A:Ab}{t i:Int}{n:Nat}(hB:aJ B)
include hB
theorem Bz(fk:aE F):∀(x:X){m:Nat}{Q:W->HP->Prop}{Z:QI->QI->HP->Prop}{s:bk},LI s.1->Wx F x->x.fu<=m->x.fu<=23->Q (.d (aY F x s).1) (hS F A (aY F x s).2)->aq B (m+4) "_law_tree" [.s 6,.d x.d] (hS F A s) Q Z:=by
 intro x
 induction x with
 |p i=>
  intro m Q Z s l w _ _ q;rcases w with rfl|rfl|rfl|rfl<;>exact .df hB 65 rfl rfl ⟨.t 0,rfl,q⟩
 |arr a ih=>
  intro m Q Z s l w hm hh q
  cases m with
  |zero=>exact absurd hm (VK _)
  |succ m=>
  have ok:=(gP (F:=F) (.arr a) (s:=s)).ok (QN (QU hh) (by decide));refine .df hB 65 rfl rfl ?_;refine Gd.of rfl (ih l w (Rv hm) (Ry hh) ?_);exact Gd.ok ok q
 |var i=>
  intro m Q Z s l w hm hh q;exact .df hB 65 rfl rfl q
 |c0 t=>
  intro m Q Z s l w hm hh q;exact wU hB fk l w.1 q
 |c1 t a ih=>
  intro m Q Z s l w hm hh q
  match m,hm with
  |m+2,hm=>
  have ok:=(gP (F:=F) (.c1 t a) (s:=s)).ok (QN (QU hh) (by decide));have l1:=nG (t:=t) fk l;have ok1:=sM (i6 (gP (F:=F) a (s:=(b0 F t s).2))) (QN hh (by decide));refine wU hB fk l w.1 ?_;refine ⟨rfl,Gd.of rfl (ih l1 w.2.2 (QN (Rv (Rv hm)) (RI m)) (Ry (Ry hh)) ?_)⟩;refine Gd.of rfl ⟨rfl,?_⟩;refine ⟨.t 0,rfl,?_⟩;refine Wo.of ok1 ?_;exact Gd.ok ok q
 |c2 t a e ih ih'=>
  intro m Q Z s l w hm hh q
  match m,hm with
  |m+2,hm=>
  have hm:=T5.mp (Rv (Rv hm));have h2:=T5.mp (Ry (Ry hh));have ok:=(gP (F:=F) (.c2 t a e) (s:=s)).ok (QN (QU hh) (by decide));have l1:=nG (t:=t) fk l;have l2:=jh fk a l1;have ok1:=sM (cv ((gP (F:=F) a (s:=(b0 F t s).2)).more (QU (TR a.fu e.fu))) ((gP (F:=F) e (s:=(aY F a (b0 F t s).2).2)).more (QU (TC a.fu e.fu)))) (QN hh (by decide));refine wU hB fk l w.1 ?_;refine ⟨rfl,Gd.of rfl (ih l1 w.2.2.1 (QN hm.1 (RI m)) h2.1 ?_)⟩;refine Gd.of rfl ⟨rfl,Gd.of rfl (ih' l2 w.2.2.2 (QN hm.2 (RI m)) h2.2 ?_)⟩;refine Gd.of rfl ⟨rfl,?_⟩;refine ⟨.t 0,rfl,?_⟩;refine Wo.of ok1 ?_;exact Gd.ok ok q
end
section
variable{F:Fx}
theorem X.iI:∀x:X,Tr (x.fu+1) x.d
 |.p _|.var _=>cv (Tr.int _) (Tr.int _)
 |.arr x=>cv ((Tr.int _).more (Rr _)) x.iI
 |.c0 _=>i6 (Tr.int _)
 |.c1 _ a=>(cv ((Tr.int _).more (Rr _)) a.iI).more (RI _)
 |.c2 _ a b=>Tr.tup (λx m=>by
   rcases QZ.mp m with rfl|m
   ·exact (Tr.int _).more (Rr _)
   rcases QZ.mp m with rfl|m
   ·exact a.iI.more (QU (RQ (TR ..)))
   ·exact QW.mp m▸b.iI.more (QU (RQ (TC ..)))) (by decide:3<=1000)
noncomputable def X.hd:X->Int
 |.p _=>0
 |.arr _=>-1
 |.var _=>-2
 |.c0 t|.c1 t _|.c2 t _ _=>t
theorem X.ye:∀x:X,∃l,x.d=.tuple (.int x.hd::l)
 |.p _|.arr _|.var _|.c0 _|.c1 _ _|.c2 _ _ _=>⟨_,rfl⟩
theorem X.n4:∀{x:X},¬x.cls->x.hd<40
 |.p _,_=>(by decide:(0:Int)<40)
 |.arr _,_=>(by decide:(-1:Int)<40)
 |.var _,_=>(by decide:(-2:Int)<40)
 |.c0 _,h|.c1 _ _,h|.c2 _ _ _,h=>absurd trivial h
theorem X.Du:∀{x y:X},Wx F x->Wx F y->x.d=y.d->x=y:=by
 have hd:∀{x y:X},x.d=y.d->x.hd=y.hd:=λ{x y} e=>by
  obtain ⟨l,ex⟩:=x.ye;obtain ⟨m,ey⟩:=y.ye;rw [ex,ey] at e;exact cj _ _ (cE e).1
 have t2:∀{a b c d:QI},RC [a,b]=.tuple [c,d]->b=d:=λe=>(RB (cE e).2).1;intro x
 induction x with
 |p i=>
  intro y w w' e
  cases y with
  |p j=>exact QQ X.p (cj _ _ (t2 e))
  |arr _=>exact absurd (show(0:Int)=-1 from hd e) (by decide)
  |var _=>exact absurd (show(0:Int)=-2 from hd e) (by decide)
  |_=>exact absurd (hd e).symm (dD w'.1.1 (X.n4 λz=>z))
 |arr a ih=>
  intro y w w' e
  cases y with
  |arr c=>exact QQ X.arr (ih w w' (t2 e))
  |p _=>exact absurd (show(-1:Int)=0 from hd e) (by decide)
  |var _=>exact absurd (show(-1:Int)=-2 from hd e) (by decide)
  |_=>exact absurd (hd e).symm (dD w'.1.1 (X.n4 λz=>z))
 |var i=>
  intro y w w' e
  cases y with
  |var j=>exact QQ X.var (cj _ _ (t2 e))
  |arr _=>exact absurd (show(-2:Int)=-1 from hd e) (by decide)
  |p _=>exact absurd (show(-2:Int)=0 from hd e) (by decide)
  |_=>exact absurd (hd e).symm (dD w'.1.1 (X.n4 λz=>z))
 |c0 t=>
  intro y w w' e;have h:=hd e
  cases y with
  |c0 u=>exact QQ X.c0 h
  |c1 u c=>exact nomatch(cE e).2
  |c2 u c d=>exact nomatch(cE e).2
  |_=>exact absurd h (dD w.1.1 (X.n4 λz=>z))
 |c1 t a ih=>
  intro y w w' e;have h:=hd e
  cases y with
  |c1 u c=>exact (show t=u from h)▸QQ (X.c1 t) (ih w.2.2 w'.2.2 (t2 e))
  |c0 u=>exact nomatch(cE e).2
  |c2 u c d=>exact nomatch(RB (cE e).2).2
  |_=>exact absurd h (dD w.1.1 (X.n4 λz=>z))
 |c2 t a b ih ih'=>
  intro y w w' e;have h:=hd e
  cases y with
  |c2 u c d=>exact (show t=u from h)▸qY (X.c2 t) (ih w.2.2.1 w'.2.2.1 (RB (cE e).2).1) (ih' w.2.2.2 w'.2.2.2 (RB (RB (cE e).2).2).1)
  |c0 u=>exact nomatch(cE e).2
  |c1 u c=>exact nomatch(RB (cE e).2).2
  |_=>exact absurd h (dD w.1.1 (X.n4 λz=>z))
end
theorem Run.gm{α β:Type}{m:R α}{f:α->R β}{S:LS}{ok:β->LS->Prop}{er:QI×QI->LS->Prop}(h:Run (m S) (λa S'=>Run (f a S') ok er) er):Run (R.bind m f S) ok er:=by
 unfold R.bind;unfold Run at h
 cases e:(m S).1 with
 |error b=>rw [e] at h;exact h
 |ok a=>rw [e] at h;exact h
section
variable{F:Fx}{t:Int}{S:LS}{p:QI×QI}
theorem tG:Run (bp F t S) (λk S'=>b0 F t (S,none)=(k,(S',none))) λp S'=>b0 F t (S,none)=(0,(S',some p)):=by
 refine (?_:Run _ (λk S'=>Vz (motive:=λ_=>Int×bk) _ _ (bp F t S).1=_) λp S'=>Vz (motive:=λ_=>Int×bk) _ _ (bp F t S).1=_);unfold Run
 cases (bp F t S).1<;>rfl
theorem j8:∀x:X,(aY F x (S,some p)).2=(S,some p)
 |.p _|.var _|.c0 _=>rfl
 |.arr x=>j8 x
 |.c1 _ a=>j8 a
 |.c2 t a b=>(QQ (λs=>(aY F b s).2) (j8 a)).trans (j8 b)
theorem nF:∀(x:X){S:LS},Run (dZ F x S) (λd S'=>aY F x (S,none)=(d,(S',none))) λp S'=>(aY F x (S,none)).2=(S',some p)
 |.p _,_|.var _,_=>rfl
 |.arr x,_=>Run.gm ((nF x).imp (λd S' e=>QQ (λr:QI×bk=>(RC [.int 29,r.1],r.2)) e) λ_ _ e=>e)
 |.c0 t,_=>Run.gm (tG.imp (λk S' e=>QQ (λr:Int×bk=>(RC [.int (elt F t),.int r.1],r.2)) e) λ_ _ e=>QQ (·.2) e)
 |.c1 t a,_=>Run.gm (tG.imp (λk S' e=>Run.gm ((nF a).imp (λd S2 e2=>(QQ (λr:Int×bk=>(RC [.int 21,.int (elt F t),.int r.1,.tuple [(aY F a r.2).1]],(aY F a r.2).2)) e).trans (QQ (λq:QI×bk=>(RC [.int 21,.int (elt F t),.int k,.tuple [q.1]],q.2)) e2)) λp S2 e2=>(QQ (λr:Int×bk=>(aY F a r.2).2) e).trans e2)) λp S' e=>(QQ (λr:Int×bk=>(aY F a r.2).2) e).trans (j8 a))
 |.c2 t a b,_=>Run.gm (tG.imp (λk S' e=>Run.gm ((nF a).imp (λd S2 e2=>Run.gm ((nF b).imp (λd' S3 e3=>
   (QQ (λr:Int×bk=>(RC [.int 21,.int (elt F t),.int r.1,.tuple [(aY F a r.2).1,(aY F b (aY F a r.2).2).1]],(aY F b (aY F a r.2).2).2)) e).trans ((QQ (λq:QI×bk=>(RC [.int 21,.int (elt F t),.int k,.tuple [q.1,(aY F b q.2).1]],(aY F b q.2).2)) e2).trans (QQ (λq:QI×bk=>(RC [.int 21,.int (elt F t),.int k,.tuple [d,q.1]],q.2)) e3)))
   λp S3 e3=>(QQ (λr:Int×bk=>(aY F b (aY F a r.2).2).2) e).trans ((QQ (λq:QI×bk=>(aY F b q.2).2) e2).trans e3)))
   λp S2 e2=>(QQ (λr:Int×bk=>(aY F b (aY F a r.2).2).2) e).trans ((QQ (λq:bk=>(aY F b q).2) e2).trans (j8 b))))
   λp S' e=>(QQ (λr:Int×bk=>(aY F b (aY F a r.2).2).2) e).trans ((QQ (λq:bk=>(aY F b q).2) (j8 a)).trans (j8 b)))
end
def gO(F:Fx)(x:X)(s:bk):Int×bk:=if x∈s.1.owners then(((1+ix s.1.owners x:Nat):Int)*8+4,s) else
 (aY F x s).2.2.rec (((1+ix (aY F x s).2.1.owners x:Nat):Int)*8+4,((aY F x s).2.1.own x (aY F x s).1,none)) λ_=>(0,(aY F x s).2)
def bP(F:Fx)(x:X)(s:bk):Int×bk:=x.tid.rec (gO F x s) λt=>((b0 F t s).1.fmod 16777216*8+((b0 F t s).1.fdiv 16777216).fmod 2,(b0 F t s).2)
section
variable{F:Fx}{t i:Int}{S:LS}{x:X}
theorem KY:Run (hV F x S) (λk S'=>gO F x (S,none)=(k,(S',none))) λp S'=>(gO F x (S,none)).2=(S',some p):=by
 unfold hV gO;by_cases m:x∈S.owners
 ·refine aa (QR m) (aa (QR m) ?_);exact rfl
 ·refine aa (QP m) (aa (QP m) ?_)
  refine Run.gm ((nF x).imp (λd S' e=>?_) λp S' e=>?_)
  ·refine aa e ?_;exact rfl
  ·exact aa e rfl
theorem K3:Run (lE F x S) (λk S'=>bP F x (S,none)=(k,(S',none))) λp S'=>(bP F x (S,none)).2=(S',some p):=by
 cases x with
 |c0 t=>
  refine Run.gm (tG.imp (λk S' e=>?_) λp S' e=>QQ (·.2) e);refine (?_:((b0 F t (S,none)).1.fmod 16777216*8+((b0 F t (S,none)).1.fdiv 16777216).fmod 2,(b0 F t (S,none)).2)=(k%16777216*8+k/16777216%2,(S',none)));exact aa e (aa (S8 _ (by decide)) (aa (S8 _ (by decide)) (aa (TN _ (by decide)) rfl)))
 |_=>exact KY
def e9(F:Fx)(x:X)(i:Int)(s:bk):Int×bk:=if big x then(67108864+i -16,s) else if(x,i)∈s.1.used then(((167772161+ix s.1.used (x,i):Nat):Int),s) else
 (aY F (F.fx i) s).2.2.rec ((bP F x (aY F (F.fx i) s).2).2.2.rec (((167772161+ix (bP F x (aY F (F.fx i) s).2).2.1.used (x,i):Nat):Int),((bP F x (aY F (F.fx i) s).2).2.1.use (x,i) (bP F x (aY F (F.fx i) s).2).1 (aY F (F.fx i) s).1,none)) λ_=>(0,(bP F x (aY F (F.fx i) s).2).2)) λ_=>(0,(aY F (F.fx i) s).2)
theorem BG:Run (f7 F x i S) (λk S'=>e9 F x i (S,none)=(k,(S',none))) λp S'=>(e9 F x i (S,none)).2=(S',some p):=by
 unfold f7 e9;by_cases h:big x
 ·refine aa (QR h) (aa (QR h) ?_);exact rfl
 refine aa (QP h) (aa (QP h) ?_);by_cases m:(x,i)∈S.used
 ·refine aa (QR m) (aa (QR m) ?_);exact rfl
 ·refine aa (QP m) (aa (QP m) ?_)
  refine Run.gm ((nF (F.fx i)).imp (λd S' e=>?_) λp S' e=>?_)
  ·refine aa e ?_
   refine Run.gm (K3.imp (λk S2 e2=>?_) λp S2 e2=>?_)
   ·dsimp only;refine aa e2 ?_;exact rfl
   ·dsimp only;exact aa e2 rfl
  ·exact aa e rfl
end
section
variable{B:Bs}{F:Fx}{A:Ab}{b:QI}{t i:Int}{n:Nat}{Q:W->HP->Prop}{Z:QI->QI->HP->Prop}{S:LS}{x:X}(hB:aJ B)
theorem GJ{k:Int}:bE (k.fmod 16777216)=true:=by
 have h:k.fmod 16777216=((k%16777216).toNat:Int):=by refine aa (S8 _ (by decide)) ?_;lia
 refine aa h ?_;exact i9 (by lia)
structure LO F S:Prop where
 li:LI S
 oW:∀y∈S.owners,Wx F y/\y.fu<=23
 uW:∀y∈S.used,Wx F y.1/\y.1.fu<=23
 len:(S.owners.length<=1000/\S.specs.length<=1000)/\S.used.length<=1000/\S.members.length<=1000
theorem v5{tl:List af}:Hs.get ⟨hc F A b,tl⟩ (.s 11)=some (.lst (dW (A.L.owners.map X.d))):=rfl
theorem AE(o:LO F S)(w:Wx F x)(hf:x.fu<=23):((S.owners.map X.d).any λy=>Rk y x.d)=decide (x∈S.owners)/\(x∈S.owners->((S.owners.map X.d).findIdx? λz=>Rk z x.d)=some (ix S.owners x)):=
 have tr:=λy m=>(Su.mp m).elim λz e=>e.2▸z.iI.more (QU (o.oW z e.1).2);have inj:=λy m e=>X.Du (o.oW y m).1 w e;have tx:=x.iI.more (QU hf)
 ⟨(rg tx tr).trans (decide_eq_decide.mpr (mem_map inj)),λm=>(qK tx tr ((mem_map inj).mpr m)).trans (QQ some (lU inj))⟩
include hB
theorem IT(fk:aE F)(l:LI S)(q:Q (.d (.int (bP F (.c0 t) (S,none)).1)) (hS F A (bP F (.c0 t) (S,none)).2)):aq B (n+4) "_law_parent" [.s 6,.d (.tuple [.int t])] (hS F A (S,none)) Q Z:=by
 refine .df hB 66 rfl rfl ?_;refine Gd.of rfl (BD hB fk l ?_);refine Wo.of (by refine (?_:(aR (bE _&&bE 8) _).map _=_);refine aa GJ ?_;rfl) ?_;exact q
end
def kept(S S':LS):Prop:=S'.owners=S.owners/\S'.specs=S.specs/\S'.used=S.used/\S'.members=S.members
theorem kept.tr{S S' S'':LS}(a:kept S' S'')(b:kept S S'):kept S S'':=⟨a.1.trans b.1,a.2.1.trans b.2.1,a.2.2.1.trans b.2.2.1,a.2.2.2.trans b.2.2.2⟩
theorem Dr{F:Fx}{t:Int}{S:LS}:kept S (bp F t S).2:=by
 have r:kept S S:=⟨rfl,rfl,rfl,rfl⟩;unfold bp;by_cases a:¬(40<=t/\t<=50)
 ·refine aa (QR a) ?_;exact r
 refine aa (QP a) ?_;by_cases c:47<t
 ·refine aa (QR c) ?_;exact r
 refine aa (QP c) ?_;by_cases d:t∈S.refs
 ·refine aa (QR d) ?_;exact r
 refine aa (QP d) ?_;by_cases e:(F.ti t).bB≠0
 ·refine aa (QR e) ?_;exact r
 refine aa (QP e) ?_;by_cases f:bY F t bU≠t\/1<(F.ti t).name.length
 ·refine aa (QR f) ?_;exact r
 ·refine aa (QP f) ?_;exact r
theorem qp{F:Fx}{t:Int}{s:bk}:kept s.1 (b0 F t s).2.1:=by
 obtain ⟨S,o⟩:=s
 cases o with
 |some p=>exact ⟨rfl,rfl,rfl,rfl⟩
 |none=>
  have h:=Dr (F:=F) (t:=t) (S:=S);refine (?_:kept S (Vz (motive:=λ_=>Int×bk) _ _ (bp F t S).1).2.1)
  cases (bp F t S).1<;>exact h
theorem j7{F:Fx}:∀(x:X){s:bk},kept s.1 (aY F x s).2.1
 |.p _,_|.var _,_=>⟨rfl,rfl,rfl,rfl⟩
 |.arr x,_=>j7 x
 |.c0 _,_=>qp
 |.c1 _ a,_=>(j7 a).tr qp
 |.c2 _ a b,_=>(j7 b).tr ((j7 a).tr qp)
section
variable{B:Bs}{F:Fx}{A:Ab}{b:QI}{t i:Int}{n:Nat}{Q:W->HP->Prop}{Z:QI->QI->HP->Prop}{S:LS}{x:X}{d e:QI}{l:List QI}(hB:aJ B)
theorem Az(o:LO F A.L)(w:Wx F x)(hf:x.fu<=23)(m:x∈A.L.owners)(ex:x.d=.tuple (d::e::l)){ρ:Ro}(q:Q (.d (.int (((1+ix A.L.owners x:Nat):Int)*8+4))) (hc F A bA)):
  aD (Ss.dr 2 xf.body) (aL B n (("w",.s 6)::("x",.d (.tuple (d::e::l)))::ρ) Z) ⟨hc F A bA,[]⟩ (bO Q):=by
 have il:=(AE o w hf).2 m;have lt:1+ix A.L.owners x<16777216:=QO (Rj (QN fJ o.len.1.1) 1) (by decide);rw [ex] at il;refine Wo.fix (v5) il ?_;refine Gd.lim (QO (QN fJ o.len.1.1) (by decide+kernel)) ?_;refine Wo.of (by refine (?_:(aR (bE ((1+ix A.L.owners x:Nat):Int)&&bE 8) _).map _=_);refine aa (i9 lt) ?_;rfl) ?_;exact q
include hB
theorem AB(fk:aE F)(o:LO F S)(w:Wx F x)(hf:x.fu<=23)(ex:x.d=.tuple (d::e::l))(o5:S.owners.length+1<=1000/\S.specs.length+1<=1000)(q:Q (.d (.int (gO F x (S,none)).1)) (hS F A (gO F x (S,none)).2)):aq B (n+28) "_law_parent" [.s 6,.d (.tuple (d::e::l))] (hS F A (S,none)) Q Z:=by
 have oa:=AE o w hf;unfold gO at q;refine .df hB 66 rfl rfl ?_;by_cases m:x∈S.owners
 ·rw [QR m] at q
  refine Wo.d5 (v5) (ex▸oa.1.trans (Rc m)) ?_;exact Az o w hf m ex q
 ·rw [QP m] at q
  refine Wo.d5 (v5) (ex▸oa.1.trans (Rm m)) ?_;have lt:∀{Q:W->HP->Prop},Q (.d (aY F x (S,none)).1) (hS F A (aY F x (S,none)).2)->aq B (n+27) "_law_tree" [.s 6,.d (.tuple (d::e::l))] (hS F A (S,none)) Q Z:=λq=>ex▸Bz hB fk x o.li w (QN hf (Sd ..)) hf q;have kp:=j7 (F:=F) x (s:=(S,none));have li:=jh fk x (s:=(S,none)) o.li;refine Gd.of rfl (lt ?_)
  clear lt
  revert q kp li;generalize aY F x (S,none)=r;obtain ⟨tree,S',o'⟩:=r;intro q kp li
  cases o' with
  |some p=>exact q
  |none=>
   have ho:=kp.1▸o5.1;have hs:=kp.2.1▸o5.2;have l1:∀{k:Nat},k+1<=1000->k<ah:=λh=>YZ (QN h (by decide+kernel));refine Gd.lim (show(dW (S'.owners.map X.d)).length<ah by(refine aa cp ?_;rewrite [QX]);exact l1 ho) ?_;refine Gd.lim (show(dW S'.specs).length<ah by refine aa cp ?_;exact l1 hs) ?_;have m':x∉S'.owners:=kp.1▸m;have e1:dW (S'.owners.map X.d)++[.d (.tuple (d::e::l))]=dW ((S'.owners++[x]).map X.d):=by exact aa gb (aa Rq (aa Th (aa ex rfl)))
   have e2:dW S'.specs++[.d tree]=dW (S'.specs++[tree]):=gb;have eo:ix (S'.own x tree).owners x=ix S'.owners x:=(jk m').trans (kb m').symm
   have lo:LO F (S'.own x tree):=⟨⟨li.aN,li.aM,li.rN,li.rM⟩,λy q=>(RL.mp q).elim (λq=>o.oW y (kp.1▸q)) λq=>(QW.mp q).symm▸⟨w,hf⟩,λy q=>o.uW y (kp.2.2.1▸q),
    ⟨by refine aa Q2 ?_;exact ho,by refine aa Q2 ?_;exact hs⟩,by refine aa kp.2.2.1 ?_;exact o.len.2.1,by refine aa kp.2.2.2 ?_;exact o.len.2.2⟩
   have t:=Az (A:=A.wL (S'.own x tree)) (B:=B) (n:=n+27) (Z:=Z) (Q:=Q) (ρ:=[("tree",.d tree)]) lo w hf (RN _ (.head _)) ex (eo.symm▸q);exact (qY (λl1 l2=>aD (Ss.dr 2 xf.body) (aL B (n+27) [("w",.s 6),("x",.d (.tuple (d::e::l))),("tree",.d tree)] Z) ⟨⟨upd (upd (hc F (A.wL S') bA).s 11 (some (.lst l1))) 12 (some (.lst l2)),(hc F (A.wL S') bA).f,(hc F (A.wL S') bA).g⟩,[]⟩ (bO Q)) e1 e2).mpr t
end
section
variable{B:Bs}{F:Fx}{A:Ab}{n:Nat}{Q:W->HP->Prop}{Z:QI->QI->HP->Prop}{S:LS}{x:X}(hB:aJ B)
include hB
theorem KJ(fk:aE F)(o:LO F S)(w:Wx F x)(c:x.cls)(hf:x.fu<=23)(o5:S.owners.length+1<=1000/\S.specs.length+1<=1000)(q:Q (.d (.int (bP F x (S,none)).1)) (hS F A (bP F x (S,none)).2)):aq B (n+28) "_law_parent" [.s 6,.d x.d] (hS F A (S,none)) Q Z:=by
 cases x with
 |c0 t=>exact IT hB fk o.li q
 |c1 t a=>exact AB hB fk o w hf rfl o5 q
 |c2 t a b=>exact AB hB fk o w hf rfl o5 q
 |_=>exact c.elim
end
section
variable{B:Bs}{F:Fx}{A:Ab}{b:QI}{i:Int}{n:Nat}{S:LS}{x:X}
theorem Mm(h:fb i) g{Q:W->Prop}(q:Q (g i)):Wo (bZ (.d .none::kA.map g) i) Q:=by
 obtain ⟨k,rfl⟩:=Ue h.1;refine Wo.of ?_ q;have hk:k<22:=by have:=h.2;lia
 have e:=(by decide:∀k:Nat,k<22->kA[k]?=some (1+(k:Int))) k hk;have e':(.d .none::kA.map g)[1+k]?=some (g (1+k)):=by(rewrite [RO];refine aa (W4) (aa (RJ) (aa e ?_)));rfl
 exact at_of (Rt (show 1+k<51 by lia) (by decide+kernel)) e'
theorem pa{tl:List af}:Hs.get ⟨hc F A b,tl⟩ (.s 13)=some (.lst (dW (A.L.used.map eS))):=rfl
theorem ve(o:LO F S)(w:Wx F x)(hf:x.fu<=23):((S.used.map eS).any λy=>Rk y (eS (x,i)))=decide ((x,i)∈S.used)/\((x,i)∈S.used->((S.used.map eS).findIdx? λz=>Rk z (eS (x,i)))=some (ix S.used (x,i))):=
 have tu:∀(x:X) i,x.fu<=23->Tr 25 (eS (x,i)):=λx i h=>cv (x.iI.more (QU h)) ((Tr.int i).more (Rr _));have tr:=λy m=>(Su.mp m).elim λz e=>e.2▸tu z.1 z.2 (o.uW z e.1).2;have inj:∀y∈S.used,eS y=eS (x,i)->y=(x,i):=λy m e=>have l:=rJ e;aab (X.Du (o.uW y m).1 w (RB l).1) (cj _ _ (RB (RB l).2).1)
 ⟨(rg (tu x i hf) tr).trans (decide_eq_decide.mpr (mem_map inj)),λm=>(qK (tu x i hf) tr ((mem_map inj).mpr m)).trans (QQ some (lU inj))⟩
end
section
variable{B:Bs}{F:Fx}{A:Ab}{b:QI}{t i:Int}{n:Nat}{Q:W->HP->Prop}{Z:QI->QI->HP->Prop}{S S':LS}{x:X}{l:List QI}(hB:aJ B)
noncomputable def tC(F:Fx)(x i:Int)(d:QI):Ro:=[("w",.s 6),("x",.d d),("fid",.d (.int i)),("tid",.d (.int x)),("word",.d (da i)),("kind",.d (F.fx i).d)]
theorem vd(w:Wx F x)(hf:x.fu<=23):aP (eS (x,i))=true:=(cv (x.iI.more (QU hf)) ((Tr.int i).more (Rr _))).ok (by decide)
theorem Bu(o:LO F A.L)(w:Wx F x)(hf:x.fu<=23)(m:(x,i)∈A.L.used){ρ:Ro}(q:Q (.d (.int (167772161+ix A.L.used (x,i):Nat))) (hc F A bA)):
  aD (Ss.dr 3 nJ.body) (aL B n (tC F t i x.d++ρ) Z) ⟨hc F A bA,[]⟩ (bO Q):=by
 refine Gd.ok (vd w hf) ?_;refine Wo.fix (pa) ((ve o w hf).2 m) ?_;exact Gd.lim (QO (QN fJ o.len.2.1) (by decide+kernel)) q
theorem LO.keep(o:LO F S)(k:kept S S')(l:LI S'):LO F S':=⟨l,λy m=>o.oW y (k.1▸m),λy m=>o.uW y (k.2.2.1▸m),⟨k.1.symm▸o.len.1.1,k.2.1.symm▸o.len.1.2⟩,k.2.2.1.symm▸o.len.2.1,k.2.2.2.symm▸o.len.2.2⟩
theorem wH{α:Type}{l:List α}{x y:α}{P:α->Prop}(h:∀y∈l,P y)(p:P x)(m:y∈l++[x]):P y:=(RL.mp m).elim (h y) λm=>(QW.mp m).symm▸p
theorem tD{α:Type}{l:List α}{x:α}(h:l.length+1<=1000):(l++[x]).length<=1000:=Q2.symm▸h
theorem LO.own(o:LO F S)(w:Wx F x)(hf:x.fu<=23)(o5:S.owners.length+1<=1000/\S.specs.length+1<=1000){d:QI}:LO F (S.own x d):=⟨⟨o.li.aN,o.li.aM,o.li.rN,o.li.rM⟩,λy=>wH o.oW ⟨w,hf⟩,o.uW,⟨tD o5.1,tD o5.2⟩,o.len.2⟩
theorem LO.use(o:LO F S)(w:Wx F x)(hf:x.fu<=23)(o5:S.used.length+1<=1000/\S.members.length+1<=1000){k:Int}{d:QI}:LO F (S.use (x,i) k d):=⟨⟨o.li.aN,o.li.aM,o.li.rN,o.li.rM⟩,o.oW,λy=>wH o.uW ⟨w,hf⟩,o.len.1,tD o5.1,tD o5.2⟩
def low(u:Nat)(S:LS):Prop:=(S.owners.length<=u/\S.specs.length<=u)/\S.used.length<=u/\S.members.length<=u
theorem low.keep{u:Nat}(h:low u S)(k:kept S S'):low u S':=⟨⟨k.1.symm▸h.1.1,k.2.1.symm▸h.1.2⟩,k.2.2.1.symm▸h.2.1,k.2.2.2.symm▸h.2.2⟩
theorem KZ(fk:aE F)(o:LO F S)(w:Wx F x)(hf:x.fu<=23)(o5:S.owners.length+1<=1000/\S.specs.length+1<=1000):LO F (gO F x (S,none)).2.1/\(gO F x (S,none)).2.1.used=S.used/\(gO F x (S,none)).2.1.members=S.members:=by
 unfold gO;by_cases m:x∈S.owners
 ·refine aa (QR m) ?_;exact ⟨o,rfl,rfl⟩
 ·refine aa (QP m) ?_
  have kp:=j7 (F:=F) x (s:=(S,none));have li:=jh fk x (s:=(S,none)) o.li;revert kp li;generalize aY F x (S,none)=r;obtain ⟨tree,S',o'⟩:=r;intro kp li
  cases o' with
  |some p=>exact ⟨o.keep kp li,kp.2.2⟩
  |none=>exact ⟨(o.keep kp li).own w hf ⟨kp.1.symm▸o5.1,kp.2.1.symm▸o5.2⟩,kp.2.2⟩
theorem BH(fk:aE F)(o:LO F S)(w:Wx F x)(hf:x.fu<=23)(o5:S.owners.length+1<=1000/\S.specs.length+1<=1000):LO F (bP F x (S,none)).2.1/\(bP F x (S,none)).2.1.used=S.used/\(bP F x (S,none)).2.1.members=S.members:=by
 cases x with
 |c0 t=>exact ⟨o.keep (qp) (nG fk o.li),(qp).2.2⟩
 |_=>exact KZ fk o w hf o5
end
section
variable{B:Bs}{F:Fx}{A:Ab}{b:QI}{t i:Int}{n:Nat}{Q:W->HP->Prop}{Z:QI->QI->HP->Prop}{S S':LS}{x:X}{l:List QI}{d:QI}{k:Int}{o':Option (QI×QI)}(hB:aJ B)
theorem Kz(o:LO F S)(w:Wx F x)(hf:x.fu<=23)(td:Tr 24 d)(o5:S.used.length+1<=1000/\S.members.length+1<=1000)(m:(x,i)∉S.used)(q:Q (.d (.int (167772161+ix S.used (x,i):Nat))) (hc F (A.wL (S.use (x,i) k d)) bA)):
  aD (Ss.dr 4 (Ss.bd 2 nJ.body)) (aL B n (tC F t i x.d++[("tree",.d d),("parent",.d (.int k))]) Z) ⟨hc F (A.wL S) bA,[]⟩ ⟨Sq (aD (Ss.dr 3 nJ.body)) (eQ B n Z) (bO Q),Q,kF⟩:=by
 have e1:dW (S.used.map eS)++[.d (eS (x,i))]=dW ((S.used++[(x,i)]).map eS):=by exact aa gb (aa Rq (aa Th rfl))
 have e2:dW (S.members.map memD)++[.d (.tuple [.int k,da i,.tuple [.int 6,d]])]=dW ((S.members++[(k,cC i,RC [.int 6,d])]).map memD):=by refine aa s7 (aa gb (aa Rq (aa Th ?_)));rfl
 have eo:=(jk m).trans (kb m).symm;have l1:∀{k:Nat},k+1<=1000->k<ah:=λh=>YZ (QN h (by decide+kernel));have tl:=Bu (A:=A.wL (S.use (x,i) k d)) (B:=B) (n:=n) (Z:=Z) (t:=t) (ρ:=[("tree",.d d),("parent",.d (.int k))]) (o.use w hf o5) w hf (RN _ (.head _)) (eo.symm▸q);have t6:=cv ((Tr.int 6).more (Rr _)) td
 have tm:Tr 26 (.tuple [.int k,da i,.tuple [.int 6,d]]):=Tr.tup (λy m=>by
  rcases QZ.mp m with rfl|m
  ·exact (Tr.int _).more (Rr _)
  rcases QZ.mp m with rfl|m
  ·exact s7▸(Tr.str (by unfold cC;by_cases e:i%2=1<;>simp only [e]<;>decide+kernel)).more (Rr _)
  ·exact QW.mp m▸t6) (by decide:3<=1000)
 refine Gd.ok (vd w hf) ?_;refine Gd.lim (show(dW (S.used.map eS)).length<ah by(refine aa cp ?_;rewrite [QX]);exact l1 o5.1) ?_;refine Gd.ok (t6.ok (by decide)) ?_;refine Gd.ok (tm.ok (by decide)) ?_;refine Gd.lim (show(dW (S.members.map memD)).length<ah by(refine aa cp ?_;rewrite [QX]);exact l1 o5.2) ?_;exact (qY (λl1 l2=>aD (Ss.dr 3 nJ.body) (aL B n (tC F t i x.d++[("tree",.d d),("parent",.d (.int k))]) Z) ⟨⟨upd (upd (hc F (A.wL S) bA).s 13 (some (.lst l1))) 14 (some (.lst l2)),(hc F (A.wL S) bA).f,(hc F (A.wL S) bA).g⟩,[]⟩ (bO Q)) e1 e2).mpr tl
end
section
variable{B:Bs}{F:Fx}{A:Ab}{b:QI}{t i:Int}{n:Nat}{Q:W->HP->Prop}{Z:QI->QI->HP->Prop}{S S':LS}{x:X}{l:List QI}{d:QI}{k:Int}{o':Option (QI×QI)}(hB:aJ B)
include hB
theorem Ky(fk:aE F)(o:LO F S)(w:Wx F x)(c:x.cls)(hf:x.fu<=23)(wk:Wx F (F.fx i))(ff:(F.fx i).fu<=23)(u:low 999 S)(hb:¬big x)(q:Q (.d (.int (e9 F x i (S,none)).1)) (hS F A (e9 F x i (S,none)).2)):
  aD (Ss.dr 2 nJ.body) (aL B (n+28) (tC F t i x.d) Z) ⟨hS F A (S,none),[]⟩ (bO Q):=by
 have ua:=(ve (i:=i) o w hf).1;have uo:=vd (i:=i) w hf;have kp:=j7 (F:=F) (F.fx i) (s:=(S,none));have li:=jh fk (F.fx i) (s:=(S,none)) o.li;have tr:=(gP (F:=F) (F.fx i) (s:=(S,none))).more (QU ff);have lt:∀{Q:W->HP->Prop},Q (.d (aY F (F.fx i) (S,none)).1) (hS F A (aY F (F.fx i) (S,none)).2)->aq B (n+28) "_law_tree" [.s 6,.d (F.fx i).d] (hS F A (S,none)) Q Z:=Bz hB fk (F.fx i) o.li wk (QN ff (Sd ..)) ff;unfold e9 at q;rw [QP hb] at q;by_cases m:(x,i)∈S.used
 ·rw [QR m] at q
  refine Gd.ok uo (Wo.d5 (pa) (ua.trans (Rc m)) ?_);exact Bu o w hf m q
 rw [QP m] at q
 clear ua
 revert q kp li tr lt;generalize aY F (F.fx i) (S,none)=r;obtain ⟨tree,S',o'⟩:=r;intro q kp li tr lt;have ua:=(ve (i:=i) o w hf).1
 cases o' with
 |some p=>
  refine Gd.ok uo (Wo.d5 (pa) (ua.trans (Rm m)) ?_);exact Gd.of rfl (lt q)
 |none=>
  have o2:=o.keep kp li;have u2:=u.keep kp;have o5:S'.owners.length+1<=1000/\S'.specs.length+1<=1000:=⟨QU u2.1.1,QU u2.1.2⟩;have lo:=BH fk o2 w hf o5;have lp:∀{Q:W->HP->Prop},Q (.d (.int (bP F x (S',none)).1)) (hS F A (bP F x (S',none)).2)->aq B (n+28) "_law_parent" [.s 6,.d x.d] (hS F A (S',none)) Q Z:=KJ hB fk o2 w c hf o5;have q:Q (.d (.int ((bP F x (S',none)).2.2.rec (((167772161+ix (bP F x (S',none)).2.1.used (x,i):Nat):Int),((bP F x (S',none)).2.1.use (x,i) (bP F x (S',none)).1 tree,none)) λ_=>(0,(bP F x (S',none)).2):Int×bk).1)) (hS F A ((bP F x (S',none)).2.2.rec (((167772161+ix (bP F x (S',none)).2.1.used (x,i):Nat):Int),((bP F x (S',none)).2.1.use (x,i) (bP F x (S',none)).1 tree,none)) λ_=>(0,(bP F x (S',none)).2):Int×bk).2):=q
  clear o5
  revert q lo lp;generalize bP F x (S',none)=r;obtain ⟨k,S2,o'⟩:=r;intro lo lp q
  cases o' with
  |some p=>
   refine Gd.ok uo (Wo.d5 (pa) (ua.trans (Rm m)) ?_);exact Gd.of rfl (lt (Gd.of rfl (lp q)))
  |none=>
   refine Gd.ok uo (Wo.d5 (pa) (ua.trans (Rm m)) ?_);exact Gd.of rfl (lt (Gd.of rfl (lp (Kz lo.1 w hf tr ⟨by refine aa lo.2.1 ?_;exact QU u2.2.1,by refine aa lo.2.2 ?_;exact QU u2.2.2⟩ (lo.2.1.symm▸kp.2.2.1.symm▸m) q))))
theorem KO(fk:aE F)(o:LO F S)(w:Wx F x)(c:x.cls)(hf:x.fu<=23)(fi:fb i)(hx:x.hd=dN i)(wk:Wx F (F.fx i))(ff:(F.fx i).fu<=23)(u:low 999 S)(q:Q (.d (.int (e9 F x i (S,none)).1)) (hS F A (e9 F x i (S,none)).2)):aq B (n+29) "_law_field" [.s 6,.d x.d,.d (.int i)] (hS F A (S,none)) Q Z:=by
 have mid:=Ky (n:=n) (Z:=Z) (t:=dN i) hB fk o w c hf wk ff u (q:=q);refine .df hB 67 rfl rfl ?_;refine Mm fi (λi=>.d (.tuple [.int (dN i),da i,(F.fx i).d])) ?_;by_cases h:47<dN i
 ·refine Br.lt h ?_
  cases x with
  |c0 t=>
   have e:e9 F (.c0 t) i (S,none)=(67108864+i -16,(S,none)):=QR ((show t=dN i from hx)▸h:47<t);rw [e] at q;exact q
  |c1 t a=>exact mid id
  |c2 t a b=>exact mid id
  |_=>exact c.elim
 ·refine Br.h9 h (mid ?_)
  cases x with
  |c0 t=>exact λz=>h ((show t=dN i from hx)▸(show 47<t from z))
  |_=>exact id
end
section
variable{α:Type}{f:α->W}{g:α->QI}{gw:α->W}{P:Hs->Prop}{T:W->Ro->(Ro->Prop)->Prop}{body:Ro->Hs->Kw->Prop}{K:Kw}{ρ0:Ro}{Tt:W->Hs->(Bool->Hs->Prop)->Prop}{E:W->Hs->(W->Hs->Prop)->Prop}{Q:List W->Hs->Prop}{h:Hs}
theorem yo(H:List W->List af->Hs)(hP:∀acc J,P (H acc J)){M:Nat}:∀(l:List α) acc J ρ,acc.length+l.length<=M->(∀x∈l,∀acc J N,acc.length<M->(∀ρ J',bz ρ0 ρ->N ρ (H (acc++[gw x]) J'))->T (f x) ρ0 (tB body N K (H acc J)))->bz ρ0 ρ->(∀J,K.ay ρ0 (H (acc++l.map gw) J))->bI P T body K (l.map f) ρ (H acc J):=by
 intro l
 induction l with
 |nil=>exact λacc J ρ hl st s fin=>⟨hP _ _,ρ0,s,(SI acc▸fin J:)⟩
 |cons x l ih=>exact λacc J ρ hl st s fin=>⟨hP _ _,ρ0,s,st x (.head _) acc J _ (SH (Sy (Tw _)) hl) λρ J' s'=>ih _ J' ρ (by(refine aa Q2 ?_;rewrite [Un]);exact hl) (λy m=>st y (.tail _ m)) s' λJ=>by rewrite [Sh];exact fin J⟩
theorem tZ(hP:P h):∀(l:List α) acc,(∀x∈l,∀(R:List W->Hs->Prop) N,R (N++[gw x]) h->Tt (f x) h (gB E (f x) R N))->Q (acc++l.map gw) h->uY P Tt E Q (l.map f) acc h:=by
 intro l
 induction l with
 |nil=>exact λacc st q=>⟨hP,(SI acc▸q:)⟩
 |cons x l ih=>exact λacc st q=>⟨hP,st x (.head _) _ _ (ih _ (λy m=>st y (.tail _ m)) (by rewrite [Sh];exact q))⟩
end
theorem ug{k:Nat}{l:List QI}(t:∀y∈l,Tr k y)(hl:l.length<=1000):Rk (.list l) (.list l)=true:=((Tr.tup t hl).eqv (Tr.tup t hl)).trans (Rc rfl)
section
variable{h:Hs}{v u:W}{l:List QI}{Q:Bool->Prop}
theorem Dt{v:W}(e:h.get v=some (.lst (dW l))):oz h v=some (.list l):=by
 unfold oz;refine aa e ?_;refine (?_:(fm (dW l)).map _=_);refine aa uG ?_;rfl
theorem C8(e:h.get v=some (.lst (dW l)))(e':h.get u=some (.lst (dW l)))(nb:v.h6=false)(r:Rk (.list l) (.list l)=true):mj h v u=some true:=by
 unfold mj;exact aa nb (aa (Dt e) (aa (Dt e') (a9 r rfl)))
theorem Wo.Bp(e:h.get v=some (.lst (dW l)))(e':h.get u=some (.lst (dW l)))(nb:v.h6=false)(r:Rk (.list l) (.list l)=true)(q:Q false):Wo (kB h .NotEq v u) Q:=
 have e2:=by
  unfold kB;dsimp only;refine aa nb (aa (C8 e e' nb r) ?_);rfl
 .of e2 q
theorem Wo.Bw(e:h.get v=some (.lst (dW l)))(e':h.get u=some (.lst (dW l)))(nb:v.h6=false)(r:Rk (.list l) (.list l)=true)(q:Q true):Wo (kB h .Eq v u) Q:=.of (C8 e e' nb r) q
end
section
variable{B:Bs}{F:Fx}{A:Ab}{b:QI}{t i:Int}{n:Nat}{Q:W->HP->Prop}{Z:QI->QI->HP->Prop}(hB:aJ B)
include hB
theorem vu{x:Str}(m:x∈A.texts)(hl:A.texts.length<ah)(q:Q (.d (.str x)) (hc F A b)):aq B (n+1) "PlainHeap.get" [.s 24,.d (.int (ix A.texts x))] (hc F A b) Q Z:=
 have g:=qv m;have e:(A.texts.map λx=>W.d (.str x))[ix A.texts x]?=some (.d (.str x)):=by(refine aa (RJ) ?_;rewrite [ix];refine aa g ?_);rfl
 have ll:=(QX λx=>W.d (.str x)).symm▸hl
 .df hB 22 rfl rfl (Wo.len ll (Br.ib (wC (j5 e)) (Wo.at (at_of (Rt (j5 g) hl) e) q)))
theorem DY{d:QI}(m:d∈A.aH)(hl:A.aH.length+1<ah)(q:Q (.d d) (hc F A b)):aq B (n+1) "PlainHeap.get" [.s 30,.d (.int (ix A.aH d+1:Nat))] (hc F A b) Q Z:=
 have g:=qv m;have e:(j3 A.aH)[ix A.aH d+1]?=some (.d d):=Dv g;have ll:=AI.symm▸hl
 .df hB 22 rfl rfl (Wo.len ll (Br.ib (wC (j5 e)) (Wo.at (at_of (QO (Nat.succ_le_of_lt (j5 g)) (Rh hl)) e) q)))
def jN(F:Fx)(as:List Int)(t:Int):QI:=.tuple [.int ((1+ix as (F.ti t).aQ)*4+2:Nat),.str (di F t),.int 0]
omit hB in
theorem vG(fk:aE F)(h:40<=t/\t<=50):TU (di F t)=true:=by
 unfold di;have hc:(F.ti t).count=0\/(F.ti t).count=1\/(F.ti t).count=2:=tF (fk.cnt t h);rcases hc with e|e|e<;>refine aa e ?_<;>rcases fk.name t h with e'|e'|e'<;>refine aa e' ?_<;>decide+kernel
omit hB in
theorem u7{as:List Int}(fk:aE F)(h:40<=t/\t<=50):Tr 1 (jN F as t):=Tr.tup (λy m=>by
  rcases QZ.mp m with rfl|m
  ·exact Tr.int _
  rcases QZ.mp m with rfl|m
  ·exact Tr.str (vG fk h)
  ·exact QW.mp m▸Tr.int _) (by decide:3<=1000)
theorem EB(fk:aE F)(h:40<=t/\t<=47)(m:(F.ti t).aQ∈A.L.aI)(hl:A.L.aI.length<=1000)(q:Q (.d (jN F A.L.aI t)) (hc F A b)):aq B (n+1) "_law_written" [.s 6,.d (.int t)] (hc F A b) Q Z:=by
 have il:=(qK (Tr.int _) nU (de.2.mpr m)).trans (QQ some de.1);have ll:ix A.L.aI (F.ti t).aQ<16777216:=QO (QN fJ hl) (by decide);have e6:jN F A.L.aI t=.tuple [.int ((ix A.L.aI (F.ti t).aQ:Int)*4+6),.str (di F t),.int 0]:=QQ (λi:Int=>RC [.int i,.str (di F t),.int 0]) (by lia);have ok:aP (jN F A.L.aI t)=true:=(u7 fk (bF h)).ok (by decide);rw [e6] at ok q;unfold di at ok q;refine .df hB 68 rfl rfl ?_;refine Wo.cI (fz (bF h)) ?_;refine Wo.fix (uC) il ?_;refine Gd.lim (QO (QN fJ hl) (by decide+kernel)) ?_;refine Wo.of (by refine (?_:(aR (bE (ix A.L.aI (F.ti t).aQ:Int)&&bE 4) _).map _=_);refine aa (i9 ll) ?_;rfl) ?_;by_cases e:(F.ti t).count=0
 ·rw [QR e] at ok q
  refine Br.no (by refine aa e ?_;rfl) ?_;exact Gd.ok ok q
 ·rw [QP e] at ok q
  have hc:(F.ti t).count=1\/(F.ti t).count=2:=(tF (fk.cnt t (bF h))).resolve_left e;refine Br.ny (λz=>e (T6 z)) ?_;refine Wo.of (x:=.str ((F.ti t).name++QJ "`")) (by rcases fk.name t (bF h) with e|e|e<;>refine aa e ?_<;>kernel_rfl) ?_;refine Gd.of rfl ?_;refine Gd.of (by rcases hc with e|e<;>refine aa e ?_<;>decide+kernel) ?_;refine Wo.of (x:=.str ((F.ti t).name++QJ "`"++QJ (toString (XZ (F.ti t).count)))) (by rcases hc with e|e<;>rcases fk.name t (bF h) with e'|e'|e'<;>refine aa e (aa e' ?_)<;>kernel_rfl) ?_;exact Gd.ok ok q
end
noncomputable def Ss.hd(k:Nat)(s:Ss):S:=(Ss.dr k s).casesOn .cont λs _=>s
section
variable{B:Bs}{F:Fx}{π:QI->Nat->Prop}{u:Nat}{A:Ab}{S:LS}{C:Ct}{b:QI}{t i:Int}{n:Nat}{Q:W->HP->Prop}{Z:QI->QI->HP->Prop}{K:Kw}{l1 l2 l3:List W}(hB:aJ B)
theorem nz{α:Type}{l:List α}{k:α->QI}:(l.map λx=>W.d (k x))=dW (l.map k):=Ui.symm
theorem qw{h:Hs}{v:W}{l:List W}(e:h.get v=some (.lst l))(hl:l.length<ah):cc h v=some (1,l):=by
 unfold cc;refine aa e ?_;refine (?_:aR (Si l.length ah) _=_);refine aa (Tg.mpr hl) ?_;rfl
theorem zQ{l:List QI} k(e:A.tab t=l)(no:t∉A.tabs->l=[]):∃v,(a5 (A.tabs.map λt=>(.int t,.f 11 t)) (.int t)).rec (some (.t k)) some=some v/\∀tl,aV tl k=some (.lst [])->Hs.get ⟨hc F A b,tl⟩ v=some (.lst (dW l)):=by
 refine aa pj ?_;by_cases m:t∈A.tabs
 ·refine aa (QR m) ?_;exact ⟨.f 11 t,rfl,λtl _=>e▸xW (F:=F) m⟩
 ·refine aa (QP m) (aa (no m) ?_);exact ⟨.t k,rfl,λtl i=>i⟩
theorem r7{α:Type}{l:List α}{r:α->QI} k(e:A.tab t=l.map r)(hl:l.length<ah)(no:t∉A.tabs->l=[]):∃v,(a5 (A.tabs.map λt=>(.int t,.f 11 t)) (.int t)).rec (some (.t k)) some=some v/\∀tl,aV tl k=some (.lst [])->cc ⟨hc F A b,tl⟩ v=some (1,l.map λx=>.d (r x)):=(zQ k e λm=>QQ (W3 r) (no m)).elim λv q=>⟨v,q.1,λtl i=>(qw (q.2 tl i) (by(refine aa cp ?_;rewrite [QX]);exact hl)).trans (QQ (λl=>some (1,l)) nz.symm)⟩
noncomputable def sR(l:Ro):Ro:=("w",.s 6)::("p",.s 21)::l
def bw(F:Fx)(S:LS)(C:Ct)(b:QI):HP:=hc F (mk F S S C) b
def u6(F:Fx)(S:LS):List W:=S.refs.map λt=>.d (jN F S.aI t)
include hB
theorem G8(fk:aE F)(g:GS F π u S C)(k:K.ay (sR [("refs",.t 0)]) ⟨bw F S C b,[.lst (u6 F S),.lst []]⟩):wpS (Ss.hd 1 ji.body) (aL B (n+1) (sR [("refs",.t 0)]) Z) ⟨bw F S C b,[.lst []]⟩ K:=by
 obtain ⟨v,ev,it⟩:=r7 (A:=mk F S S C) 1 rfl (QO g.rf (by decide+kernel)) g.g1;refine ⟨.t 1,rfl,?_⟩;refine Wo.of ev ?_;refine Wo.of (it _ rfl) ?_;refine yo (ρ0:=sR [("refs",.t 0)]) (λacc _=>⟨bw F S C b,[.lst acc,.lst []]⟩) (λacc _=>it _ rfl) (M:=8) S.refs [] [] _ ((Sv _).symm▸g.rf) (λt m acc _ N ha q=>?_) ⟨rfl,rfl,rfl,trivial⟩ λ_=>k;have h5:=bF (g.rM t m).1;have ok2:aP (.tuple [.int ((1+ix S.aI (F.ti t).aQ)*4+2:Nat),.str (di F t)])=true:=(cv (Tr.int _) (Tr.str (vG fk h5))).ok (by decide);refine ⟨_,qg,?_⟩;refine Gd.of rfl (vu hB (g.rM t m).2.2 (QO g.tx (by decide+kernel)) ?_);refine Gd.ok ok2 ?_;refine Wo.of (by refine (?_:aR (aP (jN F S.aI t)) _=_);refine aa ((u7 fk h5).ok (by decide)) ?_;rfl) ?_;exact Gd.lim (Rt ha (by decide+kernel)) (q _ [] ⟨rfl,rfl,rfl,trivial⟩)
end
section
variable{B:Bs}{F:Fx}{π:QI->Nat->Prop}{u:Nat}{A:Ab}{S:LS}{C:Ct}{b:QI}{t i:Int}{n:Nat}{Q:W->HP->Prop}{Z:QI->QI->HP->Prop}{K:Kw}{l1 l2 l3:List W}(hB:aJ B)
noncomputable def oG(a:Int):QI:=.tuple [.int 1,.int 0,.int 0,.int 0,.int 0,.int 0,.str (eB a),.int 0,.int 0]
noncomputable def yB(S:LS):List W:=S.aI.map λa=>.d (oG a)
theorem Ed{a:Int}(h:dy a):aP (.tuple [.str (eB a)])=true/\aP (.tuple [.int 1,.int 0,.int 0,.int 0,.int 0,.int 0,.str (eB a)])=true/\aP (oG a)=true:=by
 rcases h with rfl|rfl|rfl<;>exact ⟨by decide+kernel,by decide+kernel,by decide+kernel⟩
theorem PD{a:Int}(h:dy a):Tr 1 (oG a):=by
 rcases h with rfl|rfl|rfl<;>exact ⟨by decide+kernel,by decide+kernel,by decide+kernel⟩
include hB
theorem Hc(g:GS F π u S C)(k:K.ay (sR [("refs",.t 0),("asms",.t 2)]) ⟨bw F S C b,[.lst l1,.lst [],.lst (yB S),.lst []]⟩):wpS (Ss.hd 3 ji.body) (aL B (n+1) (sR [("refs",.t 0),("asms",.t 2)]) Z) ⟨bw F S C b,[.lst l1,.lst [],.lst []]⟩ K:=by
 obtain ⟨v,ev,it⟩:=r7 (A:=mk F S S C) 3 rfl (QO g.as (by decide+kernel)) g.jo;refine ⟨.t 3,rfl,?_⟩;refine Wo.of ev ?_;refine Wo.of (it _ rfl) ?_;refine yo (ρ0:=sR [("refs",.t 0),("asms",.t 2)]) (λacc _=>⟨bw F S C b,[.lst l1,.lst [],.lst acc,.lst []]⟩) (λacc _=>it _ rfl) (M:=3) S.aI [] [] _ ((Sv _).symm▸g.as) (λa m acc _ N ha q=>?_) ⟨rfl,rfl,rfl,rfl,trivial⟩ λ_=>k;have ok:=Ed (g.aM a m).1;refine ⟨_,qg,?_⟩;refine Gd.of rfl (vu hB (g.aM a m).2 (QO g.tx (by decide+kernel)) ?_);refine Gd.ok ok.1 ?_;refine Wo.of (by refine (?_:aR (aP (.tuple [.int 1,.int 0,.int 0,.int 0,.int 0,.int 0,.str (eB a)])) _=_);refine aa ok.2.1 ?_;rfl) ?_;refine Wo.of (by refine (?_:aR (aP (oG a)) _=_);refine aa ok.2.2 ?_;rfl) ?_;exact Gd.lim (Rt ha (by decide+kernel)) (q _ [] ⟨rfl,rfl,rfl,rfl,trivial⟩)
theorem G6(g:GS F π u S C)(k:K.ay (sR [("refs",.t 0),("asms",.t 2),("specs",.t 5)]) ⟨bw F S C b,[.lst l1,.lst [],.lst l2,.lst [],.lst [],.lst (dW S.specs)]⟩):wpS (Ss.hd 4 ji.body) (aL B (n+1) (sR [("refs",.t 0),("asms",.t 2)]) Z) ⟨bw F S C b,[.lst l1,.lst [],.lst l2,.lst []]⟩ K:=by
 have hu:=QO (QU (QN g.len.1.2.2 g.len.2)) (by decide+kernel:1001<ah);obtain ⟨v,ev,it⟩:=r7 (A:=mk F S S C) 4 rfl (QO (g.oS▸QN g.len.1.1 g.len.2) (by decide+kernel)) g.iA;refine ⟨.t 4,rfl,?_⟩;refine Wo.of ev ?_;refine Wo.of (it _ rfl) ?_;refine tZ (it _ rfl) S.specs [] (λd m R N q=>?_) ⟨.t 5,rfl,k⟩;refine ⟨_,qg,?_⟩;exact Gd.of rfl (DY hB (g.sB d m) hu q)
end
section
variable{B:Bs}{F:Fx}{π:QI->Nat->Prop}{u:Nat}{A:Ab}{S:LS}{C:Ct}{b:QI}{t i:Int}{n:Nat}{Q:W->HP->Prop}{Z:QI->QI->HP->Prop}{K:Kw}{l1 l2 l3:List W}(hB:aJ B)
theorem FK{p:HP}{tl:List af}{ds:List QI}{Q:QI->Prop}(ok:aP (.tuple ds)=true)(q:Q (.tuple ds)):Wo (vn ⟨p,tl++[.lst (dW ds)]⟩ (.t tl.length)) Q:=.of (by
 have e:Hs.get ⟨p,tl++[.lst (dW ds)]⟩ (.t tl.length)=some (.lst (dW ds)):=kr.trans (QR rfl);unfold vn;refine aa e ?_;refine (?_:(fm (dW ds)).bind _=_);refine aa uG ?_;refine (?_:aR (aP (.tuple ds)) _=_);refine aa ok ?_;rfl) q
theorem Fl(fk:aE F){x:Str}(m:x∈rG F):TU x=true:=(RL.mp m).elim (λm=>(Rp).mp (by decide+kernel) x m) λm=>(Su.mp m).elim λt e=>e.2▸vG fk ((by decide:∀t∈bU,40<=t/\t<=50) t e.1)
theorem A2(fk:aE F)(g:GS F π u S C){m:Int×Str×QI}(h:m∈S.members):Tr 0 (.str m.2.1)/\Tr 25 m.2.2/\Tr 26 (memD m):=
 have a:=Tr.str (Fl fk (g.tM _ (g.mB m h).1));have c:=g.bT _ (g.mB m h).2
 ⟨a,c,Tr.tup (λy q=>by
  rcases QZ.mp q with rfl|q
  ·exact (Tr.int _).more (Rr _)
  rcases QZ.mp q with rfl|q
  ·exact a.more (Rr _)
  ·exact QW.mp q▸c) (by decide:3<=1000)⟩
def A4(S:LS):List W:=S.members.map λm=>.d (memD m)
include hB
theorem G9(fk:aE F)(g:GS F π u S C)(k:∀J,K.ay (sR [("refs",.t 0),("asms",.t 2),("specs",.t 5),("members",.t 6)]) ⟨bw F S C b,[.lst l1,.lst [],.lst l2,.lst [],.lst [],.lst l3,.lst (A4 S),.lst []]++J⟩):
  wpS (Ss.hd 6 ji.body) (aL B (n+1) (sR [("refs",.t 0),("asms",.t 2),("specs",.t 5),("members",.t 6)]) Z) ⟨bw F S C b,[.lst l1,.lst [],.lst l2,.lst [],.lst [],.lst l3,.lst []]⟩ K:=by
 have hm:=g.uS▸QN g.len.1.2.1 g.len.2;have hu:=QO (QU (QN g.len.1.2.2 g.len.2)) (by decide+kernel:1001<ah);obtain ⟨v,ev,it⟩:=r7 (A:=mk F S S C) 7 rfl (QO hm (by decide+kernel)) g.jq;refine ⟨.t 7,rfl,?_⟩;refine Wo.of ev ?_;refine Wo.of (it _ rfl) ?_;refine yo (P:=lF v (1,S.members.map λx=>.d (eW C.texts C.aH x))) (ρ0:=sR [("refs",.t 0),("asms",.t 2),("specs",.t 5),("members",.t 6)]) (λacc J=>⟨bw F S C b,[.lst l1,.lst [],.lst l2,.lst [],.lst [],.lst l3,.lst acc,.lst []]++J⟩) (λacc _=>it _ rfl) (M:=1000) S.members [] [] (sR [("refs",.t 0),("asms",.t 2),("specs",.t 5),("members",.t 6)]) ((Sv _).symm▸hm) (λm h acc J N ha q=>?_) ⟨rfl,rfl,rfl,rfl,rfl,rfl,trivial⟩ k;have tr:=A2 fk g h;refine ⟨_,qg,?_⟩;refine Gd.of rfl (vu hB (g.mB m h).1 (QO g.tx (by decide+kernel)) ?_);refine Gd.ok ((cv (Tr.int m.1) tr.1).ok (by decide)) ?_;refine ⟨rfl,_,qg,?_⟩;refine Gd.of rfl (DY hB (g.mB m h).2 hu ?_);refine ⟨rfl,.t _,rfl,?_⟩;refine FK ((i6 tr.2.1).ok (by decide)) ?_;refine Wo.of (by refine (?_:aR (aP (memD m)) _=_);refine aa (tr.2.2.ok (by decide)) ?_;rfl) ?_;refine Gd.lim (Rt ha (by decide+kernel)) (Gd.of rfl ?_);exact q (sR [("refs",.t 0),("asms",.t 2),("specs",.t 5),("members",.t 6),("row",.d (eW C.texts C.aH m))]) (J++[.lst [.d m.2.2]]) ⟨rfl,rfl,rfl,rfl,rfl,rfl,trivial⟩
end
section
variable{B:Bs}{F:Fx}{π:QI->Nat->Prop}{u:Nat}{A:Ab}{S:LS}{C:Ct}{b:QI}{t i:Int}{n:Nat}{Q:W->HP->Prop}{Z:QI->QI->HP->Prop}{K:Kw}{tl:List af}(hB:aJ B)
def sL(F:Fx)(S:LS)(J:List af):List af:=[.lst (u6 F S),.lst [],.lst (yB S),.lst [],.lst [],.lst (dW S.specs),.lst (A4 S),.lst []]++J
noncomputable def sN:Ro:=sR [("refs",.t 0),("asms",.t 2),("specs",.t 5),("members",.t 6)]
theorem G5(g:GS F π u S C)(k:K.ay sN ⟨bw F S C b,tl⟩):wpS (Ss.hd 7 ji.body) (aL B n sN Z) ⟨bw F S C b,tl⟩ K:=by
 have an:∀t∈C.tabs,([RM 1,.int 35,.int 27,.int 10].any λy=>Rk y (.int t))=true:=λt m=>by
  have:=g.gM t m;rcases QZ.mp this with rfl|m
  ·rfl
  rcases QZ.mp m with rfl|m
  ·rfl
  rcases QZ.mp m with rfl|m
  ·rfl
  ·refine aa (QW.mp m) ?_;rfl
 have it:cc ⟨bw F S C b,tl⟩ (.s 23)=some (2,C.tabs.map λt=>.d (.int t)):=by
  refine (?_:aR ((1:Nat)==1&&Si (C.tabs.map λt=>(RM t,W.f 11 t)).length ah) (some (2,(C.tabs.map λt=>(RM t,W.f 11 t)).map λp=>W.d p.1))=_)
  (rewrite [QX];refine aa (Tg.mpr (QO g.tb (by decide+kernel))) (aa Ui ?_));rfl
 refine Wo.of it ?_;refine mM rfl (λ_ _=>rfl) (λl ρ=>(∀t∈l,t∈C.tabs)/\bz sN ρ) (λρ j=>⟨it,_,j.2,k⟩) (λt l ρ ih j=>⟨it,_,j.2,?_⟩) C.tabs _ ⟨λ_ m=>m,rfl,rfl,rfl,rfl,rfl,rfl,trivial⟩;exact Br.no (QQ (λb:Bool=>!b) (an t (j.1 t (.head _)))) (ih _ ⟨λu m=>j.1 u (.tail _ m),rfl,rfl,rfl,rfl,rfl,rfl,trivial⟩)
include hB
theorem NG{l:List QI}(e:A.tab t=l)(no:t∉A.tabs->l=[])(hl:l.length<ah)(q:Q (.d (.int l.length)) (hc F A b)):aq B (n+1) "PlainTables.count" [.s 22,.d (.int t)] (hc F A b) Q Z:=by
 obtain ⟨v,ev,it⟩:=zQ 0 e no;refine .df hB 26 rfl rfl ⟨.t 0,rfl,?_⟩;refine Wo.of ev ?_;exact Wo.tE (it _ rfl) (cp.symm▸hl) (cp.symm▸q)
theorem G7(fk:aE F)(g:GS F π u S C){J:List af}(k:∀J,K.ay sN ⟨bw F S C b,sL F S J⟩):wpS (Ss.hd 8 ji.body) (aL B (n+1) sN Z) ⟨bw F S C b,sL F S J⟩ K:=by
 have ir:cc ⟨bw F S C b,sL F S J⟩ (.s 10)=some (1,iW S.refs):=qw rfl (dU.symm▸QO g.rf (by decide+kernel));have hs:=g.oS▸QN g.len.1.1 g.len.2;have hl:S.specs.length<ah:=QO hs (by decide+kernel);have ts:∀y∈S.refs.map (jN F S.aI),Tr 1 y:=λy m=>(Su.mp m).elim λt e=>e.2▸u7 fk (bF (g.rM t e.1).1);have es:=ug ts (by rewrite [QX];exact QN g.rf (by decide))
 have co:∀{Q:W->HP->Prop},Q (.d (.int S.specs.length)) (bw F S C b)->aq B (n+1) "PlainTables.count" [.s 22,.d (.int 27)] (bw F S C b) Q Z:=λ{Q} q=>
  NG hB rfl (λm=>QQ (W3 _) (g.iA m)) ((QX (fB C.aH)).symm▸hl) (((QX (fB C.aH)).symm▸q:Q (.d (.int (S.specs.map (fB C.aH)).length)) (bw F S C b)))
 refine Wo.of ir ?_;refine tZ (gw:=λt=>.d (jN F S.aI t)) ir S.refs [] (λt m R N q=>?_) ⟨.t _,rfl,?_⟩
 ·exact Gd.of rfl (EB hB fk (g.rM t m).1 (g.rM t m).2.1 (QN g.as (by decide)) q)
 ·refine Wo.Bp (QQ (λl=>some (af.lst l)) nz) ((kr.trans (QR rfl)).trans (QQ (λl=>some (af.lst l)) nz)) rfl es ?_
  refine ⟨_,JM,?_⟩;refine Gd.of rfl (co ?_);refine Wo.len (k:=(dW S.specs).length) (cp.symm▸hl) ?_;refine Br.nn (by exact aa cp rfl) ?_;exact k (J++[.lst (u6 F S)])
end
section
variable{B:Bs}{F:Fx}{π:QI->Nat->Prop}{u:Nat}{A:Ab}{S:LS}{C:Ct}{b:QI}{t i:Int}{n:Nat}{Q:W->HP->Prop}{Z:QI->QI->HP->Prop}{K:Kw}{tl:List af}(hB:aJ B)
theorem Hb(g:GS F π u S C){J:List af}(k:∀J,K.ay sN ⟨bw F S C b,sL F S J⟩):wpS (Ss.hd 9 ji.body) (aL B (n+1) sN Z) ⟨bw F S C b,sL F S J⟩ K:=by
 have ir:cc ⟨bw F S C b,sL F S J⟩ (.s 9)=some (1,iW S.aI):=qw rfl (dU.symm▸QO g.as (by decide+kernel));have ts:∀y∈S.aI.map oG,Tr 1 y:=λy m=>(Su.mp m).elim λt e=>e.2▸PD (g.aM t e.1).1;have es:=ug ts (by rewrite [QX];exact QN g.as (by decide));refine Wo.of ir ?_;refine tZ (gw:=λt=>.d (oG t)) ir S.aI [] (λa m R N q=>?_) ⟨.t _,rfl,?_⟩
 ·refine Wo.of (x:=.d (.str (eB a))) (by rcases (g.aM a m).1 with rfl|rfl|rfl<;>rfl) ?_
  exact Gd.ok (Ed (g.aM a m).1).2.2 q
 ·refine Wo.Bp (QQ (λl=>some (af.lst l)) nz) ((kr.trans (QR rfl)).trans (QQ (λl=>some (af.lst l)) nz)) rfl es ?_
  exact k (J++[.lst (yB S)])
theorem Ha(fk:aE F)(g:GS F π u S C){J:List af}(q:K.ret (.d (.bool true)) (bw F S C b)):wpS (Ss.hd 10 ji.body) (aL B (n+1) sN Z) ⟨bw F S C b,sL F S J⟩ K:=by
 have hs:=g.oS▸QN g.len.1.1 g.len.2;have hm:=g.uS▸QN g.len.1.2.1 g.len.2;have e1:=ug (λy m=>g.bT y (g.sB y m)) hs;have e2:=ug (l:=S.members.map memD) (λy m=>(Su.mp m).elim λt e=>e.2▸(A2 fk g e.1).2.2) (by rewrite [QX];exact hm);refine Wo.Bw rfl rfl rfl e1 ?_;exact Wo.Bw (QQ (λl=>some (af.lst l)) nz) rfl rfl e2 q
include hB
theorem PL(fk:aE F)(g:GS F π u S C)(q:Q (.d (.bool true)) (bw F S C b)):aq B (n+2) "_law_all_same" [.s 6,.s 21] (bw F S C b) Q Z:=by
 refine .df hB 69 rfl rfl ⟨.t 0,rfl,?_⟩;refine G8 hB fk g ?_;refine ⟨.t 2,rfl,?_⟩;refine Hc hB g ?_;refine G6 hB g ?_;refine ⟨.t 6,rfl,?_⟩;refine G9 hB fk g λJ=>?_;refine G5 g ?_;refine G7 hB fk g λJ=>?_;refine Hb g λJ=>?_;exact Ha fk g q
end
theorem fO(n:Int) k(h:0<k):∃j:Nat,j<k/\n.fmod k=j:=by
 have h1:=Up n (Ur.mpr h);have h2:=Wm n (Ur.mpr h);exact ⟨(n.fmod k).toNat,(Int.toNat_lt h1).mpr h2,(VU h1).symm⟩
theorem uc{i:Int}{k:Nat}(b:Int)(h:0<k):b<=b+i.fmod k/\b+i.fmod k<b+k:=⟨Int.le_add_of_nonneg_right (Up i (Ur.mpr h)),Int.add_lt_add_left (Wm i (Ur.mpr h)) b⟩
theorem ud{i:Int}{k:Nat}(h:0<k)(h':k<=11):40<=40+i.fmod k/\40+i.fmod k<=50:=⟨(uc 40 h).1,Sj (Wj (uc 40 h).2 (Int.add_le_add_left (RZ.mpr h') 40))⟩
theorem Wo.kC{l:List QI}{j:Int}{x:QI}{Q:W->Prop}(h:bZ l j=some x)(q:Q (.d x)):Wo ((bZ l j).map .d) Q:=.of (QQ (U0 W.d) h) q
theorem Qx{k c:Nat}{l:List QI}(h:∀x∈l,Tr k x):∀x∈l.take c,Tr k x:=λx m=>h x (Xy m)
noncomputable def cx(t:Int)(a b:X)(c:Nat):X:=c.rec (.c0 t) λc _=>c.rec (.c1 t a) λ_ _=>.c2 t a b
theorem Dx{t:Int}{a b:X}{c:Nat}(h:c<=2):(cx t a b c).d=.tuple (.int t::[a.d,b.d].take c):=match c,h with
 |0,_|1,_|2,_=>rfl
structure Sm F(f s) x:Prop where
 w:Wx F x
 fu:x.fu<=f
 sz:x.size<=s
structure Nm F t x:Prop where
 sm:Sm F 4 7 x
 c:x.cls
 hd:x.hd=t
section
variable{B:Bs}{F:Fx}{ks:List X}{wr:List (QI×W)}{r:List (Option af)}{f:Nat->Int->Option af}{t i:Int}{n:Nat}{Q:W->HP->Prop}{Z:QI->QI->HP->Prop}{p:HP}{x y:X}(hB:aJ B)
theorem Sm.more{a b c d:Nat}(h:Sm F a b x)(h1:a<=c)(h2:b<=d):Sm F c d x:=⟨h.w,QN h.fu h1,QN h.sz h2⟩
theorem Sm.ok{a b:Nat}(h:Sm F a b x)(ha:a<=28):aP x.d=true:=(x.iI.more (QU (QN h.fu ha))).ok (by decide)
theorem Sm.tr{a b:Nat}(h:Sm F a b x)(ha:a<=28):Tr 29 x.d:=x.iI.more (QU (QN h.fu ha))
theorem Dw{a b:Nat}(fk:aE F)(h:40<=t/\t<=50)(sx:Sm F a b x)(sy:Sm F a b y):Sm F (a+2) (b+b+1) (cx t x y (F.ti t).count)/\(cx t x y (F.ti t).count).cls/\(cx t x y (F.ti t).count).hd=t:=by
 have hc:(F.ti t).count=0\/(F.ti t).count=1\/(F.ti t).count=2:=tF (fk.cnt t h);rcases hc with e|e|e<;>refine aa e ?_
 ·exact ⟨⟨⟨h,e⟩,Rr _,QU (Rr _)⟩,trivial,rfl⟩
 ·exact ⟨⟨⟨h,e,sx.w⟩,Ri sx.fu 2,QU (QN sx.sz (Ra ..))⟩,trivial,rfl⟩
 ·exact ⟨⟨⟨h,e,sx.w,sy.w⟩,Ri (T5.mpr ⟨sx.fu,sy.fu⟩) 2,QU (TH sx.sz sy.sz)⟩,trivial,rfl⟩
def Al{α:Type}(P:α->Prop)(l:List α):Prop:=l.rec True λx _ r=>P x/\r
theorem uB{α β:Type}{f:α->β}{P:α->Prop}{l:List α}{m:List β}{i:Int}(h:∃j:Nat,j<l.length/\i=j)(hl:l.length<51)(a:Al P l):∃x,bZ (l.map f++m) i=some (f x)/\P x:=
 have g:∀(l:List α){j:Nat},j<l.length->Al P l->∃x,(l.map f++m)[j]?=some (f x)/\P x:=λl=>by
  induction l with
  |nil=>exact λh=>absurd h (Nat.not_lt_zero _)
  |cons x l ih=>exact λ{j} h a=>j.casesOn (λ_=>⟨x,rfl,a.1⟩) (λj h=>ih (Xi h) a.2) h
 h.elim λj h=>h.2▸(g l h.1 a).imp λx q=>⟨at_of (Rt h.1 (Rt hl (by decide+kernel))) q.1,q.2⟩
noncomputable def r9(u:Int):List QI:=[.tuple [.int 0,.int 7],.tuple [.int (-2),.int 0],.tuple [.int 0,.int 13],.tuple [.int (-1),.tuple [.int 0,.int 9]],.tuple [.int 48],.tuple [.int u]]
theorem zT F(i:Int) u(h:∃j:Nat,j<4/\i=j):∃x,bZ (r9 u) i=some x.d/\Sm F 1 2 x/\x.hd<40:=
 uB (f:=X.d) (l:=[.p 7,.var 0,.p 13,.arr (.p 9)]) h (by decide)
  ⟨⟨⟨.inl rfl,Rr _,RI _⟩,by decide⟩,⟨⟨WE 0,Rr _,RI _⟩,by decide⟩,⟨⟨.inr (.inr (.inr rfl)),Rr _,RI _⟩,by decide⟩,⟨⟨.inr (.inl rfl),Rl _,Rl _⟩,by decide⟩,trivial⟩
theorem LV F(i:Int) u(h:40<=u/\u<=50):(∃x,bZ (r9 u) (i.fmod 6)=some x.d/\Sm F 1 2 x/\x.hd<40)\/∃v,bZ (r9 u) (i.fmod 6)=some (.tuple [.int v])/\40<=v/\v<=50:=by
 obtain ⟨j,hj,e⟩:=fO i 6 (by decide);have e:=e;refine aa e ?_;by_cases h4:j<4
 ·exact .inl (zT F j u ⟨j,h4,rfl⟩)
 ·obtain rfl|rfl:j=4\/j=5:=by lia
  ·exact .inr ⟨48,rfl,by decide⟩
  ·exact .inr ⟨u,rfl,h⟩
theorem Bo{u:Int}(fk:aE F)(h:40<=t/\t<=50)(sx:Sm F 2 3 x)(q:∀y,Nm F t y->Q (.d y.d) (kH F ks wr r f)):
  aD (Ss.dr 3 BK.body) (aL B n [("w",.s 6),("tid",.d (.int t)),("n",.d (.int i)),("row",.d (.tuple (r9 u))),("given",.d x.d)] Z) ⟨kH F ks wr r f,[]⟩ (bO Q):=by
 obtain ⟨z,ez,sz,_⟩:=zT F ((i.fdiv 6).fmod 4) u (fO (i.fdiv 6) 4 (by decide));have hn:=Dw fk h sx (sz.more (by decide) (by decide));have q:=q _ ⟨hn.1,hn.2.1,hn.2.2⟩;have ok:=hn.1.ok (by decide);rw [Dx (fk.cnt t h)] at q ok;refine Wo.kC ez ?_;refine Gd.ok ((cv (sx.tr (by decide)) (sz.tr (by decide))).ok (by decide)) ?_;refine Wo.cI (fz h) ?_;refine Gd.of (b:=Uv (F.ti t).count 2&&true) (by refine aa (aae.mpr (fk.cnt t h)) ?_;rfl) ?_;exact Wo.of (by refine (?_:aR (aP (.tuple (.int t::[x.d,z.d].take (F.ti t).count))) _=_);refine aa ok ?_;rfl) q
include hB
theorem xb(fk:aE F)(h:40<=t/\t<=50)(q:∀y,Nm F t y->Q (.d y.d) (kH F ks wr r f)):aq B (n+1) "_law_of" [.s 6,.d (.int t),.d (.int i)] (kH F ks wr r f) Q Z:=by
 obtain ⟨j,hj,ej⟩:=fO (i.fdiv 5) 8 (by decide);have hu:40<=40+(i.fdiv 5).fmod 8/\40+(i.fdiv 5).fmod 8<=50:=ud (k:=8) (by decide) (by decide);refine .df hB 57 rfl rfl ?_;rcases LV F i (40+(i.fdiv 5).fmod 8) hu with⟨x,ex,sx,hx⟩|⟨v,ev,hv⟩
 ·refine Wo.kC ex ?_
  obtain ⟨l,el⟩:=x.ye;have tl:=Bo (B:=B) (n:=n) (Z:=Z) (i:=i) (u:=40+(i.fdiv 5).fmod 8) fk h (sx.more (by decide) (by decide)) q;rw [el] at tl⊢;exact Br.h9 (Tf.mpr (Sj hx)) tl
 ·refine Wo.kC ev ?_
  have hn:=Dw (x:=.p 7) (y:=.p 12) fk hv ⟨.inl rfl,Rl _,Rl _⟩ ⟨.inr (.inr (.inl rfl)),Rl _,Rl _⟩;have tl:=Bo (B:=B) (n:=n) (Z:=Z) (i:=i) (u:=40+(i.fdiv 5).fmod 8) fk h hn.1 q;have ok:=hn.1.ok (by decide);rw [Dx (fk.cnt v hv)] at tl ok;refine Br.lt (show(39:Int)<v from hv.1) ?_;refine Wo.cI (fz hv) ?_;refine Gd.of (b:=Uv (F.ti v).count 2&&true) (by refine aa (aae.mpr (fk.cnt v hv)) ?_;rfl) ?_;exact Wo.of (by refine (?_:aR (aP (.tuple (.int v::[X.d (.p 7),X.d (.p 12)].take (F.ti v).count))) _=_);refine aa ok ?_;rfl) tl
end
section
variable{B:Bs}{F:Fx}{ks:List X}{wr:List (QI×W)}{r:List (Option af)}{f:Nat->Int->Option af}{t i:Int}{n:Nat}{Q:W->HP->Prop}{Z:QI->QI->HP->Prop}{p:HP}{x y:X}(hB:aJ B)
theorem Np F{j:Nat}(h:j<3):∃x,bZ [RC [.int 0,.int 7],.tuple [.int 0,.int 13],.tuple [.int (-2),.int 0]] j=some (X.d x)/\Sm F 0 1 x:=uB (f:=X.d) (l:=[.p 7,.p 13,.var 0]) ⟨j,h,rfl⟩ (by decide) ⟨⟨.inl rfl,Rl _,Rl _⟩,⟨.inr (.inr (.inr rfl)),Rl _,Rl _⟩,⟨WE 0,Rl _,Rl _⟩,trivial⟩
include hB
theorem KQ(fk:aE F):∀(m:Nat){i:Int}{Q:W->HP->Prop},0<=i->i<6^m->m<=20->(∀y,Sm F (m+4) (m+7) y->Q (.d y.d) (kH F ks wr r f))->aq B (m+n+2) "_law_drawn" [.s 6,.d (.int i)] (kH F ks wr r f) Q Z:=by
 intro m
 induction m with
 |zero=>
  intro i Q h0 h1 _ q;obtain rfl:i=0:=by omega
  exact .df hB 58 rfl rfl (q (.p 7) ⟨.inl rfl,Rr _,by decide+kernel⟩)
 |succ m ih=>
  intro i Q h0 h1 hm q;obtain ⟨j,hj,ej⟩:=fO i 6 (by decide);have ej:=ej;refine aa (Un m 1 n) ?_;refine .df hB 58 rfl rfl ?_;by_cases h3:j<3
  ·obtain ⟨x,ex,sx⟩:=Np F h3
   refine Br.lt (by refine aa ej ?_;exact R5.mpr h3) ?_;exact Wo.kC (ej.symm▸ex) (q x (sx.more (Rr _) (Sd ..)))
  ·refine Br.h9 (by refine aa ej ?_;exact λz=>h3 (R5.mp z)) ?_
   by_cases h4:j=3
   ·refine Br.ey (by refine aa ej (aa h4 ?_);rfl) ?_
    have hd:i.fdiv 6=i/6:=TN _ (by decide);refine Gd.of rfl (ih (hd▸Int.ediv_nonneg h0 (by decide)) (hd▸Int.ediv_lt_of_lt_mul (by decide) (Int.pow_succ (6:Int) m▸h1)) (Ry hm) λy sy=>?_);have sa:Sm F (m+1+4) (m+1+7) (.arr y):=⟨sy.w,by rewrite [Un];exact QU sy.fu,by rewrite [Un];exact QU sy.sz⟩;exact Gd.ok (sa.ok (QN (Ri hm 4) (by decide))) (q _ sa)
   ·refine Br.en (by refine aa ej ?_;exact λz=>h4 (T6 z)) ?_
    obtain ⟨k,hk,ek⟩:=fO (i.fdiv 6) 11 (by decide);have ek:=ek;refine Gd.of rfl (xb hB fk (by refine aa ek ?_;omega) λy ny=>q y (ny.sm.more (Sd ..) (Sd ..)))
end
noncomputable def iY(t:Int):QI:=.tuple [sS "t",.int t]
noncomputable def rF(a:Int):QI:=.tuple [sS "a",.int a]
noncomputable def gE(x:X)(i:Int):QI:=.tuple [sS "f",x.d,.int i]
def Qq(F:Fx)(x:X)(i:Int):Prop:=∃t,(40<=t/\t<=50)/\Nm F t x/\(i=2*(t -40)+1\/i=2*(t -40)+2)
def uD(a:Int):Prop:=dy a\/a=4\/a=-1
def gW(F:Fx)(d:QI):Prop:=(∃t,d=iY t/\rP t)\/(∃a,d=rF a/\uD a)\/∃x i,d=gE x i/\Qq F x i
section
variable{B:Bs}{F:Fx}{ks:List X}{wr:List (QI×W)}{r:List (Option af)}{f:Nat->Int->Option af}{t i:Int}{n:Nat}{Q:W->HP->Prop}{Z:QI->QI->HP->Prop}{p:HP}{x y:X}(hB:aJ B)
theorem E5{a b c d:Int}(ha:40<=a/\a<=50)(hb:40<=b/\b<=50)(hc:40<=c/\c<=50)(e:∃j:Nat,j<7/\d=j):∃t,bZ [RM a,.int b,.int 39,.int 0,.int 51,.int (-1),.int c] d=some (.int t)/\rP t:=uB (l:=[a,b,39,0,51,-1,c]) e (show 7<51 by decide) ⟨.inl ha,.inl hb,.inr (.inl rfl),.inr (.inr (.inl rfl)),.inr (.inr (.inr (.inl rfl))),.inr (.inr (.inr (.inr rfl))),.inl hc,trivial⟩
theorem E6{d:Int}(e:∃j:Nat,j<6/\d=j):∃t,bZ [RM 1,.int 3,.int 0,.int 1,.int 4,.int (-1)] d=some (.int t)/\uD t:=uB (l:=[1,3,0,1,4,-1]) e (by decide) ⟨.inl (.inr (.inl rfl)),.inl (.inr (.inr rfl)),.inl (.inl rfl),.inl (.inr (.inl rfl)),.inr (.inl rfl),.inr (.inr rfl),trivial⟩
theorem vc{t:Int}:aP (iY t)=true/\aP (rF t)=true:=⟨(cv (Tr.str (by decide+kernel)) (Tr.int t)).ok (by decide),(cv (Tr.str (by decide+kernel)) (Tr.int t)).ok (by decide)⟩
theorem y7(h:Nm F t x):Tr 30 (gE x i):=Tr.tup (λy m=>by
  rcases QZ.mp m with rfl|m
  ·exact (Tr.str (by decide+kernel)).more (Rr _)
  rcases QZ.mp m with rfl|m
  ·exact h.sm.tr (by decide)
  ·exact QW.mp m▸(Tr.int _).more (Rr _)) (by decide:3<=1000)
include hB
theorem KE(fk:aE F)(q:∀d,gW F d->Q (.d d) (kH F ks wr r f)):aq B (n+2) "_law_use" [.s 6,.d (.int i)] (kH F ks wr r f) Q Z:=by
 obtain ⟨t,et,ht⟩:=E5 (ud (k:=8) (by decide) (by decide)) ⟨Ti (by decide) (uc (k:=3) 48 (by decide)).1,Sj (uc (k:=3) 48 (by decide)).2⟩ (ud (k:=8) (by decide) (by decide)) (fO ((i.fdiv 5).fdiv 64) 7 (by decide));obtain ⟨a,ea,ha⟩:=E6 (fO (i.fdiv 5) 6 (by decide));have h5:40<=40+(i.fdiv 5).fmod 11/\40+(i.fdiv 5).fmod 11<=50:=ud (by decide) (by decide);obtain ⟨k,hk,ek⟩:=fO ((i.fdiv 5).fdiv 11) 2 (by decide);refine .df hB 70 rfl rfl ?_;by_cases h0:i.fmod 5=0
 ·refine Br.ey h0 ?_
  refine Wo.kC et ?_;exact Gd.ok vc.1 (q _ (.inl ⟨t,rfl,ht⟩))
 refine Br.en h0 ?_;by_cases h4:i.fmod 5=4
 ·refine Br.ey h4 ?_
  refine Wo.kC ea ?_;exact Gd.ok vc.2 (q _ (.inr (.inl ⟨a,rfl,ha⟩)))
 refine Br.en h4 ?_;refine Gd.of rfl (xb hB fk h5 λx nx=>?_)
 have sm:bE (40+(i.fdiv 5).fmod 11 -40)=true:=by
  obtain ⟨j,hj,ej⟩:=fO (i.fdiv 5) 11 (by decide);have ej:=ej;refine aa ej (aa (show(40+(j:Int)-40)=j by lia) ?_);exact i9 (Rt hj (by decide))
 refine Wo.of (by refine (?_:(aR (bE 2&&bE (40+(i.fdiv 5).fmod 11 -40)) _).map _=_);refine aa sm ?_;rfl) ?_;refine Gd.ok ((y7 nx).ok (by decide)) (q (gE x _) (.inr (.inr ⟨x,_,rfl,_,h5,nx,?_⟩)));have ek:=ek;refine aa ek ?_;lia
end
def Bd(p:QI×QI):Prop:=Tr 1 (eA p)
section
variable{B:Bs}{F:Fx}{S S':LS}{C:Ct}{b:QI}{t i:Int}{n:Nat}{Q:W->HP->Prop}{Z:QI->QI->HP->Prop}{x:X}{d v:QI}{ks:List X}{u:Nat}{g:Except (QI×QI) Int×LS}(hB:aJ B)
abbrev no:QI->Nat->Prop:=λ_ _=>False
def After(F:Fx)(u:Nat)(ks:List X)(S:LS)(P:Ct->Prop):Prop:=∀C':Ct,C'.ks=ks->GS F no u S C'->P C'
noncomputable def mR(d:QI)(l:Ro):Ro:=("w",.s 6)::("p",.s 21)::("use",.d d)::l
include hB
theorem vp(hl:∀{K:Kw},Run g (λk S'=>K.ay (mR d [("want",.d (.int k))]) ⟨hc F (mk F S' S C) bA,[]⟩) (λp S'=>∀k,K.ay (mR d [("want",.d (.int k))]) ⟨hc F (mk F S' S C) (eA p),[]⟩)->wpS (Ss.hd 1 xe.body) (aL B n (mR d []) Z) ⟨hc F (mk F S S C) bA,[]⟩ K)
  (ht:∀{gh:Rn}{K:Kw}{X:QI->QI->HP->Prop}{L:LS}{b:QI}{k:Int},Run g (λj S'=>After F u ks S' λC'=>K.ay (mR d [("want",.d (.int k)),("got",.d (.int j))]) ⟨hc F (mk F L S' C') b,[]⟩) (λp S'=>After F u ks S' λC'=>X p.1 p.2 (hc F (mk F L S' C') b))->
   aD (Ss.bd 2 xe.body) ((aL B n (mR d [("want",.d (.int k))]) Z).tr gh "w" (.s 6) X) ⟨hc F (mk F L S C) b,[]⟩ K)
  (bd:Run g (λ_ _=>True) λp _=>Bd p) (q:Run g (λ_ S'=>After F u ks S' λC'=>Q (.d (.bool true)) (bw F S' C' bA)) λp S'=>After F u ks S' λC'=>Q (.d (.bool true)) (bw F S' C' (eA p))):aq B (n+1) "_law_told" [.s 6,.s 21,.d d] (hc F (mk F S S C) b) Q Z:=by
 obtain ⟨e,S'⟩:=g;refine .df hB 71 rfl rfl (hl ?_)
 cases e with
 |ok k=>exact ⟨"w",λ_ _ _=>False,λgh=>ht λC' k' g'=>rQ (beq_self_eq_true k) (q C' k' g'),λ_ _ _ z=>z.elim⟩
 |error p=>
  have ok:=Tr.ok bd (by decide);have eq:=((Tr.eqv bd bd).trans (Rc rfl))
  exact λk=>⟨"w",λa c hp=>(a=p.1/\c=p.2)/\∃C',(C'.ks=ks/\GS F no u S' C')/\hp=bw F S' C' (eA p),λgh=>ht λC' k' g'=>⟨⟨rfl,rfl⟩,C',⟨k',g'⟩,rfl⟩,λa c hp z=>z.2.elim λC' y=>by
   refine aa z.1.1 (aa z.1.2 (aa y.2 ?_));exact Gd.ok ok (rQ eq (q C' y.1.1 y.1.2))⟩
end
def Rb{α:Type}(m:R α):Prop:=∀S,Run (m S) (λ_ _=>True) λp _=>Bd p
section
variable{F:Fx}{S:LS}{t i:Int}{x:X}{α β:Type}
theorem Rb.bind{m:R α}{f:α->R β}(h:Rb m)(k:∀a,Rb (f a)):Rb (R.bind m f):=λS=>Run.gm ((h S).imp (λa S' _=>k a S') λ_ _ h=>h)
theorem Rb.ret{a:α}:Rb (R.ret a):=λ_=>trivial
theorem uy{w:String}(h:TU (QJ w)=true):Bd (bad w i):=cv (Tr.str h) (Tr.int i)
theorem qS:Rb (bp F t):=λS=>by
 unfold bp;by_cases a:¬(40<=t/\t<=50)
 ·refine aa (QR a) ?_;exact uy (by decide+kernel)
 refine aa (QP a) ?_;by_cases c:47<t
 ·refine aa (QR c) ?_;exact trivial
 refine aa (QP c) ?_;by_cases d:t∈S.refs
 ·refine aa (QR d) ?_;exact trivial
 refine aa (QP d) ?_;by_cases e:(F.ti t).bB≠0
 ·refine aa (QR e) ?_;exact uy (by decide+kernel)
 refine aa (QP e) ?_;by_cases f:bY F t bU≠t\/1<(F.ti t).name.length
 ·refine aa (QR f) ?_;exact uy (by decide+kernel)
 ·refine aa (QP f) ?_;exact trivial
theorem mP:∀x:X,Rb (dZ F x)
 |.p _|.var _=>.ret
 |.arr x=>(mP x).bind λ_=>.ret
 |.c0 _=>qS.bind λ_=>.ret
 |.c1 _ a=>qS.bind λ_=>(mP a).bind λ_=>.ret
 |.c2 _ a b=>qS.bind λ_=>(mP a).bind λ_=>(mP b).bind λ_=>.ret
theorem IM:Rb (hV F x):=λS=>by
 unfold hV;by_cases m:x∈S.owners
 ·refine aa (QR m) ?_;exact trivial
 ·refine aa (QP m) ?_;exact ((mP x).bind (f:=λd S'=>(.ok (((1+ix S'.owners x:Nat):Int)*8+4),S'.own x d)) λ_ _=>trivial) S
theorem IP:Rb (lE F x):=match x with
 |.c0 t=>(qS).bind λ_=>.ret
 |.p _|.var _|.arr _|.c1 _ _|.c2 _ _ _=>IM
theorem My:Rb (f7 F x i):=λS=>by
 unfold f7;by_cases h:big x
 ·refine aa (QR h) ?_;exact trivial
 refine aa (QP h) ?_;by_cases m:(x,i)∈S.used
 ·refine aa (QR m) ?_;exact trivial
 ·refine aa (QP m) ?_;exact ((mP (F.fx i)).bind λd=>(IP).bind (f:=λq S'=>(.ok ((167772161+ix S'.used (x,i):Nat):Int),S'.use (x,i) q d)) λ_ _=>trivial) S
theorem Pz:Rb (iL i):=λS=>by
 unfold iL;by_cases h:dy i
 ·refine aa (QR h) ?_;exact trivial
 ·refine aa (QP h) ?_;exact uy (by decide+kernel)
theorem Run.snd{g:Except (QI×QI) Int×LS}{P:QI->LS->Prop}(h:∀b,P b g.2):Run g (λ_ S'=>P bA S') λp S'=>P (eA p) S':=by
 obtain ⟨e,S'⟩:=g
 cases e<;>exact h _
theorem K0(fk:aE F)(o:LO F S)(w:Wx F x)(hf:x.fu<=23)(u:low 999 S):LO F (e9 F x i (S,none)).2.1:=by
 unfold e9;by_cases h:big x
 ·refine aa (QR h) ?_;exact o
 refine aa (QP h) ?_;by_cases m:(x,i)∈S.used
 ·refine aa (QR m) ?_;exact o
 refine aa (QP m) ?_;have kp:=j7 (F:=F) (F.fx i) (s:=(S,none));have li:=jh fk (F.fx i) (s:=(S,none)) o.li;revert kp li;generalize aY F (F.fx i) (S,none)=r;obtain ⟨tree,S',o'⟩:=r;intro kp li;have o2:=o.keep kp li;have u2:=u.keep kp
 cases o' with
 |some p=>exact o2
 |none=>
  have lo:=BH fk o2 w hf ⟨QU u2.1.1,QU u2.1.2⟩;refine (?_:LO F (aeB (motive:=λ_=>Int×bk) _ _ (bP F x (S',none)).2.2).2.1);revert lo;generalize bP F x (S',none)=r;obtain ⟨k,S2,o'⟩:=r;intro lo
  cases o' with
  |some p=>exact lo.1
  |none=>exact lo.1.use w hf ⟨by refine aa lo.2.1 ?_;exact QU u2.2.1,by refine aa lo.2.2 ?_;exact QU u2.2.2⟩
theorem Mx(fk:aE F)(o:LO F S)(w:Wx F x)(hf:x.fu<=23)(u:low 999 S){P:QI->LS->Prop}(h:∀b S',LO F S'->P b S'):Run (f7 F x i S) (λ_ S'=>P bA S') λp S'=>P (eA p) S':=
 have l:=K0 fk o w hf u
 BG.imp (λk S' e=>h _ S' (show LO F S' by rw [e] at l;exact l)) λp S' e=>h _ S' (show LO F S' by rw [e] at l;exact l)
end
structure TS F m S C:Prop where
 g:GS F no (3*m) S C
 o:LO F S
 k:C.ks.length<=1000+7*m
 f:∀i,fb i->kQ F C.ks i
section
variable{B:Bs}{F:Fx}{S S' L:LS}{C C':Ct}{b:QI}{t i:Int}{n m:Nat}{Q:W->HP->Prop}{Z:QI->QI->HP->Prop}{x:X}{d v:QI}{ks ks':List X}{u:Nat}(hB:aJ B)
theorem TS.next(T:TS F m S C)(hm:m<=300)(k:C'.ks=C.ks)(g:GS F no (3*m) S' C')(o:LO F S'):TS F (m+1) S' C':=⟨g.more (Sa 3 (RI m)) (QN (Sa 3 (QU hm)) (by decide)),o,k.symm▸QN T.k (Rj (Sa 7 (RI m)) 1000),k.symm▸T.f⟩
theorem TS.as(T:TS F m S C):S.aI.length+1<ah:=QO (QU T.g.as) (by decide+kernel)
theorem TS.rf(T:TS F m S C):S.refs.length+1<ah:=QO (QU T.g.rf) (by decide+kernel)
theorem LO.aQ(o:LO F S)(h:dy i):LO F (S.aQ i):=⟨o.li.aQ h,o.oW,o.uW,o.len⟩
theorem Pw(o:LO F S){P:QI->LS->Prop}(h:∀b S',LO F S'->P b S'):Run (iL i S) (λ_ S'=>P bA S') λp S'=>P (eA p) S':=by
 unfold iL;by_cases a:dy i
 ·refine aa (QR a) ?_;exact h _ _ (o.aQ a)
 ·refine aa (QP a) ?_;exact h _ _ o
theorem Ny(fk:aE F)(o:LO F S){P:QI->LS->Prop}(h:∀b S',LO F S'->P b S'):Run (bp F t S) (λ_ S'=>P bA S') λp S'=>P (eA p) S':=Dq fk o.li (.snd (P:=λb S'=>LI S'->P b S') λb l=>h b _ (o.keep Dr l))
include hB
theorem Pu(h:uD i)(g:GS F no u S C)(hk:C.ks=ks)(q:Run (iL i S) (λk S'=>After F u ks S' λC'=>Q (.d (.int k)) (hc F (mk F L S' C') b)) λp S'=>After F u ks S' λC'=>Z p.1 p.2 (hc F (mk F L S' C') b)):aq B (n+2) "asm_ref_row" [.s 21,.d (.int i)] (hc F (mk F L S C) b) Q Z:=by
 unfold iL at q;by_cases a:dy i
 ·rw [QR a] at q
  exact Ea hB a g λC' k' g'=>q C' (k'.trans hk) g'
 ·rw [QP a] at q
  have m':=λz=>a (g.aM i (de.2.mp z)).1;refine .df hB 45 rfl rfl (Br.yes (nu (ng m')) ?_);have q:=q C hk g;rcases h.resolve_left a with rfl|rfl<;>exact Gd.of rfl (.df hB 36 rfl rfl q)
theorem FX(fk:aE F)(h:rP t)(T:TS F m S C)(hm:m<=300)(q:∀S' C' b',TS F (m+1) S' C'->Q (.d (.bool true)) (bw F S' C' b')):aq B (n+36) "_law_told" [.s 6,.s 21,.d (iY t)] (hc F (mk F S S C) b) Q Z:=by
 refine vp (g:=bp F t S) hB ?_ ?_ (qS S) (Ny fk T.o λb S' o C' k' g'=>q S' C' b (T.next hm k' g' o))
 ·intro K r
  exact Gd.of rfl (BC hB fk T.as T.rf (r.imp (λ_ _ z=>z) λ_ _ z=>z 0))
 ·intro gh K X L b k r
  exact Gd.of rfl (pd (hB.cF gh) fk h T.g rfl r)
theorem F1(fk:aE F)(h:uD i)(T:TS F m S C)(hm:m<=300)(q:∀S' C' b',TS F (m+1) S' C'->Q (.d (.bool true)) (bw F S' C' b')):aq B (n+36) "_law_told" [.s 6,.s 21,.d (rF i)] (hc F (mk F S S C) b) Q Z:=by
 refine vp (g:=iL i S) hB ?_ ?_ (Pz S) (Pw T.o λb S' o C' k' g'=>q S' C' b (T.next hm k' g' o))
 ·intro K r
  exact Gd.of rfl (BF hB T.as (r.imp (λ_ _ z=>z) λ_ _ z=>z 0))
 ·intro gh K X L b k r
  exact Gd.of rfl (Pu (hB.cF gh) h T.g rfl r)
end
section
variable{B:Bs}{F:Fx}{S S' L:LS}{C C':Ct}{b:QI}{t i:Int}{n m:Nat}{Q:W->HP->Prop}{Z:QI->QI->HP->Prop}{x:X}{d v:QI}{ks ks':List X}{u:Nat}(hB:aJ B)
noncomputable def Ct.kk(C:Ct)(ks:List X):Ct:=⟨ks,C.texts,C.aH,C.tabs⟩
theorem GS.kk(g:GS F no u S C)(K:a6 ks')(pre:∃t,ks'=C.ks++t):GS F no u S (C.kk ks'):=pre.elim λt e=>{g with
 K:=K
 oM:=λx m=>e▸(g.oM x m).more
 uM:=λx m=>e▸(g.uM x m).more}
theorem JS(g:GS F no u S C)(pre:∃t,ks'=C.ks++t):{mk F L S C with ks:=ks'}=mk F L S (C.kk ks'):=pre.elim λt e=>by
 have e1:(S.owners.map λx=>RM (aw C.ks x))=S.owners.map λx=>RM (aw ks' x):=RX λx m=>by exact aa e (aa (ka g.K (g.oM x m)) rfl)
 have e2:S.used.map (eZ C.ks)=S.used.map (eZ ks'):=RX λx m=>by unfold eZ;exact aa e (aa (ka g.K (g.uM x m)) rfl)
 unfold mk Ct.kk;exact aa e1 (aa e2 rfl)
theorem kQ.more(K:a6 ks)(f:kQ F ks i)(pre:∃t,ks'=ks++t):kQ F ks' i:=pre.elim λt e=>⟨e▸f.has.more,e▸f.ix.trans (ka K f.has).symm,f.wx,f.fu⟩
theorem Js(h:Nm F t x):∃l,bc F ks x=.tuple [.int (tg F t),.int t,.tuple l]/\l.length=(F.ti t).count/\(big x↔47<t/\l=[]):=by
 have w:=h.sm.w;have hd:=h.hd
 cases x with
 |c0 u=>subst hd;exact ⟨_,rfl,w.2.symm,λz=>⟨z,rfl⟩,acs⟩
 |c1 u a=>subst hd;exact ⟨_,rfl,w.2.1.symm,λz=>z.elim,λz=>nomatch z.2⟩
 |c2 u a b=>subst hd;exact ⟨_,rfl,w.2.1.symm,λz=>z.elim,λz=>nomatch z.2⟩
 |_=>exact h.c.elim
theorem X.ky:∀x:X,x.ht<=x.fu
 |.arr x=>QU x.ky
 |.c1 _ a=>QU (RQ a.ky)
 |.c2 _ a b=>QU (RQ (T5.mpr ⟨QN a.ky (TR ..),QN b.ky (TC ..)⟩))
 |.p _|.var _|.c0 _=>Rl _
theorem TS.low(T:TS F m S C)(hm:m<=300):low 999 S:=
 have h:=QN (Sa 3 hm) (by decide)
 ⟨⟨QN T.g.len.1.1 h,T.g.oS▸QN T.g.len.1.1 h⟩,QN T.g.len.1.2.1 h,T.g.uS▸QN T.g.len.1.2.1 h⟩
theorem K1{P:Int->bk->Prop}(h:Run (f7 F x i S) (λk S'=>P k (S',none)) λp S'=>∀k,P k (S',some p)):P (e9 F x i (S,none)).1 (e9 F x i (S,none)).2:=by
 have l:=BG (F:=F) (x:=x) (i:=i) (S:=S);unfold Run at h l;revert h l
 cases (f7 F x i S).1 with
 |ok k=>exact λh l=>(QQ (λr:Int×bk=>P r.1 r.2) l).mpr h
 |error p=>exact λh l=>(QQ (λs:bk=>P (e9 F x i (S,none)).1 s) l).mpr (h _)
include hB
theorem FY(fk:aE F)(ht:40<=t/\t<=50)(nm:Nm F t x)(hi:i=2*(t -40)+1\/i=2*(t -40)+2)(T:TS F m S C)(hm:m<=300)(q:∀S' C' b',TS F (m+1) S' C'->Q (.d (.bool true)) (bw F S' C' b')):aq B (n+36) "_law_told" [.s 6,.s 21,.d (gE x i)] (hc F (mk F S S C) b) Q Z:=by
 have fi:fb i:=qM (by assumption) (by assumption);have ow:x.hd=dN i:=nm.hd.trans (sC (by assumption)).symm;have f:=T.f i fi;have ff:=QN f.fu (by decide:20<=23);have w:=nm.sm.w;have hf:=QN nm.sm.fu (by decide:4<=23);have j:=iu F x T.g.K w;have T':TS F (m+1) S (C.kk (bC C.ks x)):=⟨(T.g.kk j.k j.pre).more (Sa 3 (RI m)) (QN (Sa 3 (QU hm)) (by decide)),T.o,QN (nV x) (QN (TH T.k nm.sm.sz) (R4 (SO ..))),λi h=>(T.f i h).more T.g.K j.pre⟩;have kl:(bC C.ks x).length<=4000:=QN T'.k (QN (Rj (Sa 7 (QU hm)) 1000) (by decide));have lk:(bC C.ks x).length+16<ah:=QO (Ri kl 16) (by decide+kernel);have lk2:C.ks.length+x.size+17<ah:=QO (Ri (TH (QN T.k (Rj (Sa 7 hm) 1000)) nm.sm.sz) 17) (by decide+kernel);have h3:3*m+3<=1000:=QN (Ri (Sa 3 hm) 3) (by decide);obtain ⟨l,er,hl,hb⟩:=Js nm
 have kd:∀{gh:Rn}{L:LS}{b:QI}{Q:W->HP->Prop}{Z:QI->QI->HP->Prop},Q (.d (.int (aw (bC C.ks x) x:Nat))) (hc F (mk F L S (C.kk (bC C.ks x))) b)->aq (B.cF gh) (n+35) "_law_kind" [.s 6,.s 0,.d x.d] (hc F (mk F L S C) b) Q Z:=λ{gh L b Q Z} q=>
  BA (hB.cF gh) x w (QN (QN x.ky nm.sm.fu) (by decide)) (QN nm.sm.sz (by decide)) (QN (QN x.ky nm.sm.fu) (QN (by decide) (Sd ..))) T.g.K lk2 ((JS T.g j.pre).symm▸q:Q _ (hc F {mk F L S C with ks:=bC C.ks x} b))
 refine vp (g:=f7 F x i S) hB ?_ ?_ (My S) (Mx (P:=λb S'=>After F (3*m+3) (bC C.ks x) S' λC'=>Q (.d (.bool true)) (bw F S' C' b)) fk T.o w hf (T.low hm) λb S' o C' k' g'=>q S' C' b ⟨g',o,k'.symm▸T'.k,k'.symm▸T'.f⟩)
 ·intro K r
  refine Gd.of rfl (KO (A:=mk F S S C) hB fk T.o w nm.c hf fi ow f.wx ff (T.low hm) ?_);exact K1 (P:=λk s=>K.ay (mR (gE x i) [("want",.d (.int k))]) ⟨hS F (mk F S S C) s,[]⟩) r
 ·intro gh K X L b k r
  refine Gd.of rfl (kd ?_);exact Gd.of rfl (Mw (hB.cF gh) fk lk j.k rfl (T.g.kk j.k j.pre) h3 j.has w nm.c hf ht hi (f.more T.g.K j.pre) er hl hb r)
end
section
variable{B:Bs}{F:Fx}{S S' L:LS}{C C':Ct}{b:QI}{t i:Int}{n m:Nat}{Q:W->HP->Prop}{Z:QI->QI->HP->Prop}{tl:List af}{K:Kw}{ns:Nat}{l:List QI}{sc:W}(hB:aJ B)
theorem kU.app{h:Hs}{v u:W}{l m:List W}{Q:W->Hs->Prop}(e:h.get v=some (.lst l))(e':h.get u=some (.lst m))(hl:l.length+m.length<ah)(q:gz h (.lst (l++m)) Q):kU h .Add v u Q:=by
 unfold kU;refine aa e ?_;exact Gd.of rfl (Wo.lst e' (Gd.lim hl q))
include hB
theorem FZ(fk:aE F){d:QI}(h:gW F d)(T:TS F m S C)(hm:m<=300)(q:∀S' C' b',TS F (m+1) S' C'->Q (.d (.bool true)) (bw F S' C' b')):aq B (n+36) "_law_told" [.s 6,.s 21,.d d] (hc F (mk F S S C) b) Q Z:=h.elim (λh=>h.elim λt h=>h.1▸FX hB fk h.2 T hm q) λh=>h.elim (λh=>h.elim λa h=>h.1▸F1 hB fk h.2 T hm q) λh=>h.elim λx h=>h.elim λi h=>h.2.elim λt y=>h.1▸FY hB fk y.1 y.2.1 y.2.2 T hm q
noncomputable def gL(u:W):Ro:=[("script",.g 4),("nums",.s 44),("w",.s 6),("store",.s 15),("p",.s 21),("uses",u)]
def E0:Ss:=Ss.bd 9 fj.body
theorem EW(fk:aE F){u:W}{P:Hs->Prop}(hP:∀hp,P ⟨hp,tl⟩)(fin:∀S C b,K.ay (gL u) ⟨bw F S C b,tl⟩):∀(l:List QI){m:Nat}{S:LS}{C:Ct}{b:QI}{ρ:Ro},TS F m S C->m+l.length<=300->(∀d∈l,gW F d)->bz (gL u) ρ->bI P (gY ["use"]) (bS (aD E0) (eQ B (n+36) Z)) K (dW l) ρ ⟨bw F S C b,tl⟩:=by
 intro l
 induction l with
 |nil=>exact λT hm ok s=>⟨hP _,_,s,fin _ _ _⟩
 |cons d l ih=>
  intro m S C b ρ T hm ok s;refine ⟨hP _,_,s,?_⟩;refine Gd.of rfl (FZ hB fk (ok d (.head _)) T (QN (Ra ..) hm) λS' C' b' T'=>?_)
  exact Gd.of rfl (PL hB fk T'.g (ih T' (by rewrite [SO,RO 1];exact hm) (λd m=>ok d (.tail _ m)) ⟨rfl,rfl,rfl,rfl,rfl,rfl,trivial⟩))
theorem KD(fk:aE F){k:Nat}(e:aV tl k=some (.lst (dW l)))(T:TS F 0 S C)(hl:l.length<=100)(ok:∀d∈l,gW F d)(q:∀S C b tl,K.ay (gL (.t k)) ⟨bw F S C b,tl⟩):wpS (Ss.hd 9 fj.body) (aL B (n+36) (gL (.t k)) Z) ⟨bw F S C b,tl⟩ K:=by
 have e':=e;have h2:(dW l).length+(dW l).length<=200:=by refine aa cp ?_;exact TH hl hl
 have h3:(dW l++dW l).length<=200:=by refine aa Q2 ?_;exact h2
 have it:∀hp,cc ⟨hp,tl++[.lst (dW l++dW l)]⟩ (.t tl.length)=some (1,dW l++dW l):=λhp=>qw (kr.trans (QR rfl)) (QO h3 (by decide+kernel));have ed:dW l++dW l=dW (l++l):=Rq.symm;refine kU.app e' e' (QO h2 (by decide+kernel)) ⟨.t tl.length,rfl,?_⟩;refine Wo.of (it _) ?_;have lp:=EW (n:=n) (Z:=Z) (b:=b) (ρ:=gL (.t k)) (P:=lF (.t tl.length) (1,dW l++dW l)) hB fk it (λS C b=>q S C b _) (l++l) T (by(rewrite [Sv];refine a9 cp (a9 ed ?_));exact QN h3 (by decide)) (λd m=>(RL.mp m).elim (ok d) (ok d)) ⟨rfl,rfl,rfl,rfl,rfl,rfl,trivial⟩;rw [←ed] at lp;exact lp
end
section
variable{B:Bs}{F:Fx}{S S' L:LS}{C C':Ct}{b:QI}{t i:Int}{n m:Nat}{Q:W->HP->Prop}{Z:QI->QI->HP->Prop}{tl:List af}{K:Kw}{l:List QI}{k:Nat}{p:HP}{ks:List X}{wr:List (QI×W)}{f:Nat->Int->Option af}(hB:aJ B)
theorem Cg{α:Type}{c c':α}:∀{l:List α}{k:Nat},aV l k=some c'->aV (upd l k c) k=some c
 |[],_,e=>nomatch e
 |_::_,0,_=>rfl
 |_::t,k+1,e=>Cg (l:=t) e
def oP(F:Fx)(k N:Nat)(tl:List af):Prop:=∃l,aV tl k=some (.lst (dW l))/\(∀d∈l,gW F d)/\l.length<=N
noncomputable def w3:Ro:=[("script",.g 4),("nums",.s 44),("w",.s 6),("store",.s 15),("p",.s 21)]
theorem wi{j:Nat}(h:j<F.ns.length)(h16:F.ns.length<=16){Q:W->Prop}(q:∀i,Q (.d (.int i))):Wo (bZ (iW F.ns) j) Q:=Wo.of (at_of (Rt (SH h h16) (by decide+kernel)) (ku (T7 h))) (q _)
theorem PJ{c:Wc}{x:String}{e1:E}{h:Hs}{v:W}{l:List W}(lk:look c.ρ x=some v)(ch:c.h=false)(e:h.get v=some (.lst l))(q:Gd (!v.top) (eR (.cons e1 .nil) c h λws h=>Wo (one ws) λx=>Wo (d6 (h.get v)) λl=>Gd (Si l.length ah) (Gd (j1 v x) (K.ay c.ρ (h.set v (.lst (l++[x]))))))):wpS (.ex (.met (.lv x) "append" (.cons e1 .nil))) c h K:=Gd.of (QQ (λb:Bool=>!b) ch) (Wo.of lk (iO.app e q))
include hB
theorem EZ(fk:aE F)(h16:0<F.ns.length/\F.ns.length<=16)(q:∀tl k,oP F k 2 tl->K.ay (gL (.t k)) ⟨hc F (mk F S S C) b,tl⟩):wpS (Ss.hd 6 fj.body) (aL B (n+1) w3 Z) ⟨hc F (mk F S S C) b,tl⟩ K:=by
 refine Gd.ok vc.1 (Gd.of rfl (wi h16.1 h16.2 λi=>?_));refine Gd.of rfl (xb hB fk (by decide) λy ny=>?_);refine Gd.ok ((y7 ny).ok (by decide)) ⟨.t tl.length,rfl,?_⟩;refine q _ tl.length ⟨[iY 40,gE y 19],kr.trans (QR rfl),λd m=>?_,Rl _⟩;rcases QZ.mp m with rfl|m
 ·exact .inl ⟨40,rfl,.inl (by decide)⟩
 ·exact .inr (.inr ⟨y,19,QW.mp m,49,by decide,ny,.inl rfl⟩)
theorem EX(fk:aE F)(h16:F.ns.length<=16)(u:oP F k 11 tl)(q:∀tl,oP F k 27 tl->K.ay (gL (.t k)) ⟨hc F (mk F S S C) b,tl⟩):wpS (Ss.hd 8 fj.body) (aL B (n+2) (gL (.t k)) Z) ⟨hc F (mk F S S C) b,tl⟩ K:=by
 have hl:(iW F.ns).length<ah:=dU.symm▸QO h16 (by decide+kernel);refine Wo.len hl ?_;refine Gd.of (zF hl) ?_;refine zd rfl (λ_ _=>rfl) (λl ρ h=>(∀j∈l,j<F.ns.length)/\bz (gL (.t k)) ρ/\∃tl N,h=⟨hc F (mk F S S C) b,tl⟩/\oP F k N tl/\N+l.length<=27) ?_ ?_ (RP ((iW F.ns).length -0:Int).toNat) _ _ ?_
 ·exact λρ h j=>⟨trivial,_,j.2.1,j.2.2.elim λtl y=>y.elim λN y=>y.1▸q tl (y.2.1.imp λl z=>⟨z.1,z.2.1,QN z.2.2 y.2.2⟩)⟩
 ·intro j l ρ h ih z
  obtain ⟨hj,s,tl,N,rfl,⟨us,e,ok,hu⟩,hN⟩:=z;have e':=e;have hu2:=QN hu (QN (Ra ..) hN);refine ⟨trivial,_,s,?_⟩;rewrite [UE];refine (PJ rfl rfl e' (Gd.of rfl ?_));refine Gd.of rfl (wi (hj j (.head _)) h16 λi=>?_);have hj':j<16777216:=SH (hj j (.head _)) (QN h16 (by decide));refine Wo.of (by refine (?_:(aR (bE 97&&bE j) _).map _=_);refine aa (i9 hj') ?_;rfl) ?_;refine Gd.of rfl (KE hB fk λd od=>?_);refine Wo.lst e' ?_;refine Gd.lim (by refine aa cp ?_;exact QO hu2 (by decide+kernel)) (Gd.of rfl ?_);refine ih _ _ ⟨λj m=>hj j (.tail _ m),⟨rfl,rfl,rfl,rfl,rfl,rfl,trivial⟩,_,N+1,rfl,⟨us++[d],(Cg e).trans (QQ (λl=>some (af.lst l)) gb),λd'=>wH ok od,?_⟩,(UU N l.length).symm▸hN⟩;refine aa Q2 ?_;exact QU hu
 ·exact ⟨λj m=>by rw [Y0,TY,UD,dU] at m;exact m,⟨rfl,rfl,rfl,rfl,rfl,rfl,trivial⟩,tl,11,rfl,u,by(rewrite [Y0,TY];refine aa Sw (aa dU ?_));exact Rj h16 11⟩
end
section
variable{B:Bs}{F:Fx}{S S' L:LS}{C C':Ct}{b:QI}{t i:Int}{n m:Nat}{Q:W->HP->Prop}{Z:QI->QI->HP->Prop}{tl:List af}{K:Kw}{l:List QI}{k:Nat}{p:HP}(hB:aJ B)
structure u3(F:Fx):Prop where
 c1:(F.ti 41).count=1
 c5:(F.ti 45).count=1
 c3:(F.ti 43).count=2
 c2:(F.ti 42).count=0
noncomputable def n8:List QI:=[iY 41,gE (.c1 41 (.c1 45 (.p 7))) 3,gE (.c2 43 (.p 7) (.c0 48)) 8,iY 44,iY 46,iY 42,rF 0,gE (.c0 42) 6,gE (.c0 48) 17]
theorem Ms(fk:aE F)(em:u3 F):∀d∈n8,gW F d:=by
 have ht:∀{t:Int},40<=t/\t<=50->gW F (iY t):=λ{t} h=>.inl ⟨t,rfl,.inl h⟩;have hf:∀{t i:Int}{x:X},40<=t/\t<=50->(i=2*(t -40)+1\/i=2*(t -40)+2)->Wx F x->x.fu<=4/\x.size<=7->x.cls->x.hd=t->gW F (gE x i):=λ{t i x} h hi w f c e=>.inr (.inr ⟨x,i,rfl,t,h,⟨⟨w,f.1,f.2⟩,c,e⟩,hi⟩);have c8:(F.ti 48).count=0:=by exact aa fk.pq rfl
 have w8:Wx F (.c0 48):=⟨by decide,c8⟩;have w7:Wx F (.p 7):=.inl rfl
 have a:Al (gW F) n8:=⟨ht (by decide),hf (t:=41) (by decide) (.inl rfl) ⟨by decide,em.c1,by decide,em.c5,w7⟩ ⟨Rl _,by decide+kernel⟩ trivial rfl,hf (t:=43) (by decide) (.inr rfl) ⟨by decide,em.c3,w7,w8⟩ ⟨by decide+kernel,by decide+kernel⟩ trivial rfl,ht (by decide),ht (by decide),ht (by decide),.inr (.inl ⟨0,rfl,.inl (.inl rfl)⟩),
  hf (t:=42) (by decide) (.inr rfl) ⟨by decide,em.c2⟩ ⟨by decide+kernel,by decide+kernel⟩ trivial rfl,hf (t:=48) (by decide) (.inl rfl) w8 ⟨by decide+kernel,by decide+kernel⟩ trivial rfl,trivial⟩
 have g:∀{l:List QI},Al (gW F) l->∀d∈l,gW F d:=λ{l}=>by
  induction l with
  |nil=>exact λ_ _ m=>nomatch m
  |cons x l ih=>exact λa d m=>(QZ.mp m).elim (λe=>e▸a.1) (ih a.2 d)
 exact g a
theorem Ci{α:Type}{c:α}{m:List α}:∀{l:List α}{k:Nat},aV l k=some c->aV (l++m) k=some c
 |[],_,e=>nomatch e
 |_::_,0,e=>e
 |_::t,k+1,e=>Ci (l:=t) e
theorem EY(fk:aE F)(hi:F.is.length<=63)(em:F.is=[]->u3 F)(u:oP F k 2 tl)(q:∀tl k,oP F k 11 tl->K.ay (gL (.t k)) ⟨hc F (mk F S S C) b,tl⟩):wpS (Ss.hd 7 fj.body) (aL B (n+1) (gL (.t k)) Z) ⟨hc F (mk F S S C) b,tl⟩ K:=by
 have hl:(iW F.is).length<ah:=dU.symm▸QO hi (by decide+kernel);refine Wo.len hl ?_;by_cases e:F.is=[]
 ·have em:=em e
  obtain ⟨us,eu,ok,hu⟩:=u;have e':=eu;refine Br.ey (by refine aa e ?_;rfl) ?_;have e1:Hs.get ⟨hc F (mk F S S C) b,tl++[.lst (dW n8)]⟩ (.t k)=some (.lst (dW us)):=Ci eu;have e2:Hs.get ⟨hc F (mk F S S C) b,tl++[.lst (dW n8)]⟩ (.t tl.length)=some (.lst (dW n8)):=kr.trans (QR rfl);have st:∀{Q:Prop}{d:QI},aP d=true->Q->Gd (aP d) Q:=Gd.ok;refine st (by decide+kernel) (st (by decide+kernel) (st (by decide+kernel) (st (by decide+kernel) (st (by decide+kernel) (st (by decide+kernel) (st (by decide+kernel) (st (by decide+kernel) (st (by decide+kernel) ⟨.t tl.length,rfl,?_⟩))))))));refine kU.app e1 e2 (by refine aa cp ?_;exact QO (Ri hu 9) (by decide+kernel)) ⟨.t _,rfl,?_⟩;refine q _ _ ⟨us++n8,(kr.trans (QR rfl)).trans (QQ (λl=>some (af.lst l)) Rq.symm),λd m=>(RL.mp m).elim (ok d) (Ms fk em d),?_⟩;refine aa Q2 ?_;exact Ri hu 9
 ·refine Br.en (λz=>e (VL (dU▸T6 z))) ?_
  exact q tl k (u.imp λl z=>⟨z.1,z.2.1,QN z.2.2 (by decide)⟩)
include hB in
theorem KI(fk:aE F)(hi:F.is.length<=63)(h16:0<F.ns.length/\F.ns.length<=16)(em:F.is=[]->u3 F)(T:TS F 0 S C)(q:∀S C b,K.ret (.d (.bool true)) (bw F S C b)):aD (Ss.dr 6 fj.body) (aL B (n+36) w3 Z) ⟨hc F (mk F S S C) b,tl⟩ K:=by
 refine EZ hB fk h16 λtl k u=>?_;refine EY fk hi em u λtl k u=>?_;refine EX hB fk h16.2 u λtl u=>?_;obtain ⟨l,e,ok,hl⟩:=u;exact KD hB fk e T (QN hl (by decide)) ok λS C b tl=>q S C b
end
section
variable{B:Bs}{F:Fx}{A:Ab}{b:QI}{t i:Int}{n m:Nat}{Q:W->HP->Prop}{Z:QI->QI->HP->Prop}{tl:List af}{K:Kw}{k:Nat}{p:HP}{ty a:List W}{c d nm:List (QI×W)}(hB:aJ B)
def nH(F:Fx)(A:Ab)(b:QI)(ty a:List W)(c d:List (QI×W)):HP:=⟨upd (upd (upd (upd (hc F A b).s 16 (some (.lst ty))) 33 (some (.lst a))) 34 (some (.aj 1 c))) 35 (some (.aj 1 d)),(hc F A b).f,(hc F A b).g⟩
noncomputable def jQ:List W:=Q4 40 (.d .none)++Internal.dz.map λt=>.f 0 t
theorem y8{t:Int}{ty:List W}{Q:W->Prop}(e:ty=jQ)(h:40<=t/\t<=50)(q:Q (.f 0 t)):Wo (bZ ty t) Q:=e▸jP h q
noncomputable def fF(f:Int):Ro:=[("p",.s 21),("names",.t 0),("fields",.d (.int f)),("methods",.d (.int 0))]
noncomputable def wu(f t:Int):Ro:=[("p",.s 21),("names",.t 0),("fields",.d (.int f)),("methods",.d (.int 0)),("t",.f 0 t)]
theorem Fe(h:40<=t/\t<=50):Hs.get ⟨nH F A b ty a c d,tl⟩ (.f 0 t)=some (.obj "TypeDef" (fU F t)):=ty_cell (A:=A) (b:=b) (tl:=tl) h
theorem IQ{Q:Nat->Prop}(K:aE F)(h:40<=t/\t<=50)(q:Q (F.ti t).count):Wo (lO ⟨nH F A b ty a c d,tl⟩ (.f 1 t)) Q:=jZ (A:=A) (b:=b) (tl:=tl) K h q
theorem Jm(et:ty=jQ)(h:(1<=t/\t<40)\/((40<=t/\t<=47)/\(F.ti t).aQ≠2)){f:Int}(k:∀w,K.cnt (fF f++[("tid",.d (.int t)),("t",w)]) ⟨nH F A b ty a c d,tl⟩):aD (Ss.bd 3 uw.body) (aL B n (fF f++[("tid",.d (.int t))]) Z) ⟨nH F A b ty a c d,tl⟩ K:=by
 rcases h with h|h
 ·have e:bZ ty t=some (.d .none):=by
   refine aa et ?_;unfold jQ;obtain ⟨j,rfl⟩:=Ue h.1;have hj:1+j<40:=by omega
   refine at_of (n:=1+j) (Rt hj (by decide+kernel)) ?_;exact aa (List.getElem?_append_left (by rw [TP];exact hj)) (aa (W5) (aa (QR hj) rfl))
  exact Wo.at e (k _)
 ·have h5:=bF h.1
  refine y8 et h5 ?_;refine Wo.aF (Fe h5) rfl ?_;exact Br.ny h.2 (k _)
structure yR F(t:Int) nm c h:Prop where
 h5:40<=t/\t<=50
 aQ:look (fU F t) "asm"=some (.d (.int 2))
 name:look (fU F t) "name"=some (.d (.str nm))
 bB:look (fU F t) "home"=some (.d (.int (40*h)))
 sort:look (fU F t) "sort"=some (.d (.int (if h=0 then 1 else 2)))
 cnt:(F.ti t).count=c
theorem uf(h:40<=t/\t<=50):cc ⟨nH F A b ty a c d,tl⟩ (.f 2 t)=some (1,[.d (.int (2*(t -40)+1)),.d (.int (2*(t -40)+2))]):=qy (F:=F) (A:=A) (b:=b) (tl:=tl) h
theorem A3(h:40<=t/\t<=50):cc ⟨nH F A b ty a c d,tl⟩ (.f 6 t)=some (1,[]):=by
 have e:Hs.get ⟨nH F A b ty a c d,tl⟩ (.f 6 t)=some (.lst []):=by
  refine (?_:aR (cz t) _=_);refine aa (qF h) ?_;rfl
 unfold cc;refine aa e ?_;rfl
def d1(t f:Int)(d:List (QI×W)):List (QI×W):=bX d (.int (2*(t -40)+1)) (.d (.int (f+0+1)))
def d2(t f:Int)(d:List (QI×W)):List (QI×W):=bX (d1 t f d) (.int (2*(t -40)+2)) (.d (.int (f+0+1+1)))
include hB in
theorem Jn{N:Str}{ct:Nat}{hm f:Int}{w:W}(o:yR F t N ct hm)(h01:hm=0\/hm=1)(la:a.length<10)(lc:c.length<10)(ld:d.length<10)(l1:(d1 t f d).length<10){bj:af}(k:K.ay (fF (f+0+1+1)) ⟨nH F A b ty (a++[.d (.int t)]) (bX c (.int t) (.d (.int ((a++[W.d (.int t)]).length+1)))) (d2 t f d),[bj]⟩):
  aD (Ss.dr 6 (Ss.bd 3 uw.body)) (aL B (n+1) (fF f++[("tid",.d (.int t)),("t",.f 0 t),("key",w)]) Z) ⟨nH F A b ty a c d,[bj]⟩ K:=by
 have e0:d9 F A 0 t=some (.obj "TypeDef" (fU F t)):=ty_cell (A:=A) (b:=b) (tl:=[]) o.h5;have ll:∀{k:Nat},k<10->k<ah:=λh=>Rt h (by decide+kernel);refine Gd.lim (ll la) ?_;refine Wo.len (by refine aa Q2 ?_;exact QO la (by decide+kernel)) ?_;refine Gd.lim (ll lc) ?_;refine Gd.of rfl (.df hB 43 rfl rfl (Wo.aF e0 o.sort (Br.ny (by rcases h01 with rfl|rfl<;>decide) ?_)));refine Wo.aF e0 rfl ?_;refine Wo.of (uf o.h5) ?_;refine ⟨uf o.h5,wu (f+0) t,⟨rfl,rfl,rfl,rfl,rfl,trivial⟩,?_⟩;refine Gd.lim (ll ld) ?_;refine ⟨uf o.h5,wu (f+0+1) t,⟨rfl,rfl,rfl,rfl,rfl,trivial⟩,?_⟩;refine Gd.lim (ll l1) ?_;refine ⟨uf o.h5,wu (f+0+1+1) t,⟨rfl,rfl,rfl,rfl,rfl,trivial⟩,?_⟩;refine Wo.aF e0 rfl ?_;refine Wo.of (A3 o.h5) ?_;exact ⟨A3 o.h5,fF (f+0+1+1),⟨rfl,rfl,rfl,rfl,trivial⟩,k⟩
end
section
variable{B:Bs}{F:Fx}{A:Ab}{b:QI}{t i:Int}{n m:Nat}{Q:W->HP->Prop}{Z:QI->QI->HP->Prop}{tl:List af}{K:Kw}{k:Nat}{p:HP}{ty a:List W}{c d nm:List (QI×W)}(hB:aJ B)
def AO(h:Int)(nm:List (QI×W))(key:QI)(t:Int):List (QI×W):=if h=0 then bX nm key (.d (.int t)) else nm
include hB
theorem wm(et:ty=jQ){N:Str}{ct:Nat}{hm f:Int}(fk:aE F)(o:yR F t N ct hm)(h01:hm=0\/hm=1)(gr:(!(Tn N (QJ "`") 0 N.length 1).isEmpty)=false)(ok:aP (.tuple [.str N,.int ct])=true)(no:hm=0->a5 nm (.tuple [.str N,.int ct])=none)(la:a.length<10)(lc:c.length<10)(ld:d.length<10)(l1:(d1 t f d).length<10)(ln:nm.length<10)
  (k:K.ay (fF (f+0+1+1)) ⟨nH F A b ty (a++[.d (.int t)]) (bX c (.int t) (.d (.int ((a++[W.d (.int t)]).length+1)))) (d2 t f d),[.aj 3 (AO hm nm (.tuple [.str N,.int ct]) t)]⟩):
  aD (Ss.bd 3 uw.body) (aL B (n+1) (fF f++[("tid",.d (.int t))]) Z) ⟨nH F A b ty a c d,[.aj 3 nm]⟩ K:=by
 have e0:d9 F A 0 t=some (.obj "TypeDef" (fU F t)):=ty_cell (A:=A) (b:=b) (tl:=[]) o.h5;have rw:=λ{bj w}=>Jn (A:=A) (b:=b) (n:=n) (Z:=Z) (K:=K) (ty:=ty) (bj:=bj) (w:=w) hB o h01 la lc ld l1;refine y8 et o.h5 ?_;refine Wo.aF e0 o.aQ ?_;refine Wo.aF e0 o.name ?_;refine Br.no gr ?_;refine Wo.aF e0 o.name ?_;refine Wo.aF e0 rfl ?_;refine IQ fk o.h5 ?_;refine aa o.cnt ?_;refine Gd.ok ok ?_;refine Wo.aF e0 o.bB ?_;rcases h01 with rfl|rfl
 ·refine Br.no (n5 (no rfl)) ?_
  refine Wo.aF e0 o.bB ?_;refine Gd.lim (Rt ln (by decide+kernel)) ?_;exact rw k
 ·refine Wo.aF e0 o.bB ?_
  exact rw k
end
section
variable{B:Bs}{F:Fx}{A:Ab}{b:QI}{t i:Int}{n m:Nat}{Q:W->HP->Prop}{Z:QI->QI->HP->Prop}{tl:List af}{ty:List W}{K:Kw}{k:Nat}{p:HP}{h:Hs}(hB:aJ B)
theorem GQ{α:Type}{f:α->W}{P:Hs->Prop}{T:W->Ro->(Ro->Prop)->Prop}{body:Ro->Hs->Kw->Prop}{ρ0:Ro}{m:List W}(hP:P h):∀(l:List α),(∀x∈l,∀N:Ro->Hs->Prop,(∀ρ,bz ρ0 ρ->N ρ h)->T (f x) ρ0 (tB body N K h))->(∀ρ,bz ρ0 ρ->bI P T body K m ρ h)->∀ρ,bz ρ0 ρ->bI P T body K (l.map f++m) ρ h:=by
 intro l
 induction l with
 |nil=>exact λ_ fin=>fin
 |cons x l ih=>exact λst fin ρ s=>⟨hP,ρ0,s,st x (.head _) _ (ih (λy m=>st y (.tail _ m)) fin)⟩
noncomputable def wz:List Int:=(RP 47).map λk:Nat=>1+k
theorem wq(e:F.ti t=⟨2,N,c,s,s⟩)(h5:40<=t/\t<=50)(h:s=0\/s=1):yR F t N c s:=by
 refine ⟨h5,?_,?_,?_,?_,by exact aa e rfl⟩
 ·refine (?_:some (W.d (.int (F.ti t).aQ))=_);exact aa e rfl
 ·refine (?_:some (W.d (.str (F.ti t).name))=_);exact aa e rfl
 ·refine (?_:some (W.d (.int (40*(F.ti t).bB)))=_);exact aa e rfl
 ·refine (?_:some (W.d (.int (if(F.ti t).struct=0 then 1 else 2)))=_);exact aa e rfl
theorem vk{P:Hs->Prop}{T:W->Ro->(Ro->Prop)->Prop}{body:Ro->Hs->Kw->Prop}{ρ:Ro}{l l':List W}(e:l=l')(q:bI P T body K l' ρ h):bI P T body K l ρ h:=e▸q
theorem Ff(e:ty=jQ):ty.length=51:=e▸(by decide+kernel:jQ.length=51)
theorem Jo:fA 1 ((51:Nat):Int)=wz.map (λi:Int=>W.d (.int i))++[.d (.int 48),.d (.int 49),.d (.int 50)]:=by
 have e:fA 1 ((51:Nat):Int)=((RP 50).map λk:Nat=>1+(k:Int)).map λi:Int=>W.d (.int i):=Ui.symm;have e2:(RP 50).map (λk:Nat=>1+(k:Int))=wz++[48,49,50]:=by decide+kernel
 refine aa e (aa e2 (aa Rq ?_));rfl
include hB
theorem Jg(fk:aE F)(et:ty=jQ)(q:Q (.d .none) (nH F A b ty [.d (.int 48),.d (.int 49),.d (.int 50)] (iD [(48,2),(49,3),(50,4)]) (iD [(17,1),(18,2),(19,3),(20,4),(21,5),(22,6)]))):aq B (n+2) "number_rows" [.s 21] (nH F A b ty [] [] []) Q Z:=by
 have o8:=wq fk.pq (by decide) (.inl rfl);have o9:=wq fk.rU (by decide) (.inl rfl);have o0:=wq fk.rT (by decide) (.inr rfl);have tl:=Ff et;refine .df hB 42 rfl rfl ⟨3,.t 0,rfl,?_⟩;refine Wo.len (tl▸by decide+kernel) ?_;refine aa tl ?_;refine Gd.of (b:=bE 1&&bE ((51:Nat):Int)) (by decide) (Gd.of (by decide) (vk Jo ?_));refine GQ (ρ0:=fF 0) trivial wz (λt m N q=>?_) (λρ s=>?_) (fF 0) ⟨rfl,rfl,rfl,rfl,trivial⟩
 ·have h:(1<=t/\t<40)\/(40<=t/\t<=47):=by
   obtain ⟨k,hk,rfl⟩:=Su.mp m;have:=UD.mp hk;lia
  exact Jm et (h.imp_right λh=>⟨h,by rcases fk.aQ t h with e|e|e<;>refine aa e ?_<;>decide⟩) λw=>q _ ⟨rfl,rfl,rfl,rfl,trivial⟩
 ·have ne:RC [.str (QJ "L"),.int ((0:Nat):Int)]≠.tuple [.str (QJ "L"),.int ((1:Nat):Int)]:=λe=>nomatch cj _ _ (RB (cE e).2).1
  have e2:∀{w:W},bX [(RC [.str (QJ "L"),.int ((0:Nat):Int)],.d (.int 48))] (.tuple [.str (QJ "L"),.int ((1:Nat):Int)]) w=[(.tuple [.str (QJ "L"),.int ((0:Nat):Int)],.d (.int 48)),(.tuple [.str (QJ "L"),.int ((1:Nat):Int)],w)]:=λ{w}=>pM.trans (QP ne);refine ⟨trivial,fF 0,s,wm hB et fk o8 (.inl rfl) (by decide+kernel) (by decide+kernel) (λ_=>rfl) (by decide) (by decide) (by decide) (by decide) (by decide) ?_⟩;refine ⟨trivial,fF 2,⟨rfl,rfl,rfl,rfl,trivial⟩,wm hB et fk o9 (.inl rfl) (by decide+kernel) (by decide+kernel) (λ_=>dE.trans (QP ne)) (by decide) (show 1<10 by decide) (show 2<10 by decide) (show 3<10 by decide) (by decide) ?_⟩;refine ⟨trivial,fF 4,⟨rfl,rfl,rfl,rfl,trivial⟩,wm hB et fk o0 (.inr rfl) (by decide+kernel) (by decide+kernel) (λe=>nomatch e) (show 2<10 by decide) (show 2<10 by decide) (show 4<10 by decide) (show 5<10 by decide) (by unfold AO;refine aa (QR rfl) (aa e2 ?_);exact (by decide:2<10)) ?_⟩;exact ⟨trivial,fF 6,⟨rfl,rfl,rfl,rfl,trivial⟩,q⟩
end
theorem si{P:Hs->Prop}{T:W->Ro->(Ro->Prop)->Prop}{body:Ro->Hs->Kw->Prop}{K:Kw}{f:Nat->W}(I:Nat->Ro->Hs->Prop){N:Nat}(fin:∀ρ h,I N ρ h->P h/\Sb ρ (qN K h))
  (step:∀j,j<N->∀ρ h M,(∀ρ h,I (j+1) ρ h->M ρ h)->I j ρ h->P h/\Sb ρ (tN T (f j) body (M) K h)) {ρ:Ro} {h:Hs} (i:I 0 ρ h):bI P T body K ((RP N).map f) ρ h:=by
 have g:∀(m j:Nat),j+m=N->∀ρ h,I j ρ h->bI P T body K ((Zu j m).map f) ρ h:=by
  intro m
  induction m with
  |zero=>exact λj e ρ h i=>fin ρ h (e▸i)
  |succ m ih=>exact λj e ρ h i=>step j (e▸Sy (Tw m)) ρ h _ (ih (j+1) ((UU j m).trans e)) i
 refine aa List.range_eq_range' ?_;exact g N 0 (Sv N) ρ h i
theorem z9{N:Nat}:fA 0 N=(RP N).map λk:Nat=>W.d (.int k):=by
 unfold fA;rewrite [Y0,TY];exact RX λk _=>by(rewrite [UE];rfl)
noncomputable def mw(i:Int):Int:=if i=0 then 1 else if i=1 then 3 else 0
noncomputable def gK(i:Int):Str:=if i=3 then QJ "L`1" else if i=2 then QJ "M" else QJ "L"
noncomputable def l6(i:Int):Int:=if i=0 then 1 else 0
noncomputable def kY(n:Int):TI:=⟨mw (n.fmod 3),gK ((n.fdiv 3).fmod 4),((n.fdiv 12).fmod 3).toNat,(n.fdiv 108).fmod 2,l6 ((n.fdiv 36).fmod 3)⟩
noncomputable def nN(ns:List Int)(k:Nat):Int:=(ns.getD (k%ns.length) 0).fdiv (((k/ns.length:Nat):Int)+1)+31*k
noncomputable def jU(ns:List Int)(t:Int):TI:=if t<48 then kY (nN ns (t -40).toNat) else if t=48 then⟨2,QJ "L",0,0,0⟩ else if t=49 then⟨2,QJ "L",1,0,0⟩ else⟨2,QJ "M",0,1,1⟩
theorem Mj(n k:Nat):Int.fmod n k=((n%k:Nat):Int):=S8 _ (R7 k)
theorem MA(n k:Nat):Int.fdiv n k=((n/k:Nat):Int):=TN _ (R7 k)
theorem D8{α:Type}{g:Nat->α}{N:Nat}{i:Int}(h:∃j:Nat,j<N/\i=j)(hN:N<51):∃j:Nat,i=j/\bZ ((RP N).map g) i=some (g j):=h.elim λj h=>⟨j,h.2,h.2▸at_of (Rt h.1 (Rt hN (by decide+kernel))) (by refine aa (RJ) (aa (VV h.1) ?_);rfl)⟩
theorem Py(i:Int):bZ [RM 1,.int 3,.int 0] (i.fmod 3)=some (.int (mw (i.fmod 3))):=(D8 (fO i 3 (by decide)) (by decide)).elim λj e=>e.2.trans (QQ (λi=>some (RM (mw i))) e.1.symm)
theorem JF(i:Int):bZ [Yj (QJ "L"),.str (QJ "L"),.str (QJ "M"),.str (QJ "L`1")] (i.fmod 4)=some (.str (gK (i.fmod 4))):=(D8 (fO i 4 (by decide)) (by decide)).elim λj e=>e.2.trans (QQ (λi=>some (Yj (gK i))) e.1.symm)
theorem JG i:TU (gK i)=true:=by unfold gK;by_cases a:i=3<;>by_cases c:i=2<;>simp only [a,c,if_true,if_false]<;>decide+kernel
theorem F3{t:TI}(h:TU t.name=true):Tr 1 t.d:=Tr.tup (λy m=>by
  rcases QZ.mp m with rfl|m
  ·exact Tr.int _
  rcases QZ.mp m with rfl|m
  ·exact Tr.str h
  rcases QZ.mp m with rfl|m
  ·exact Tr.int _
  rcases QZ.mp m with rfl|m
  ·exact Tr.int _
  ·exact QW.mp m▸Tr.int _) (show 5<=1000 by decide)
theorem Ir{l:List (QI×W)}{x:QI}{w:W}(h:a5 l x=none):bX l x w=l++[(x,w)]:=by
 induction l with
 |nil=>rfl
 |cons p l ih=>
  rw [dE] at h;by_cases e:p.1=x
  ·rw [QR e] at h;exact nomatch h
  ·rw [QP e] at h;refine aa pM (aa (QP e) (aa (ih h) ?_));rfl
section
variable{B:Bs}{F:Fx}{n j:Nat}{Q:W->HP->Prop}{Z:QI->QI->HP->Prop}{tl:List af}{K:Kw}{p:HP}{l:List (QI×W)}(hB:aJ B)
def n0(F:Fx):HP:=⟨upd (Q4 46 none) 44 (some (.lst (iW F.ns))),λ_ _=>none,gc F⟩
def t0(F:Fx)(l:List (QI×W)):HP:=⟨upd (n0 F).s 7 (some (.aj 1 l)),λ_ _=>none,gc F⟩
noncomputable def vi(ns:List Int)(k:Nat):QI×W:=(.int ((40+k:Nat):Int),.d (kY (nN ns k)).d)
noncomputable def kZ(ns:List Int)(j:Nat):List (QI×W):=(RP j).map (vi ns)
theorem wh(h16:F.ns.length<=16){Q:Nat->Prop}(q:Q F.ns.length):Wo (aR (Si (iW F.ns).length ah) (some (iW F.ns).length)) Q:=.len (dU.symm▸QO h16 (by decide+kernel)) (dU.symm▸q)
theorem Fg:a5 (kZ F.ns j) (.int ((40+j:Nat):Int))=none:=by
 have g:∀l:List Nat,j∉l->a5 (l.map (vi F.ns)) (.int ((40+j:Nat):Int))=none:=λl=>by
  induction l with
  |nil=>exact λ_=>rfl
  |cons x l ih=>exact λm=>by exact aa Ut (aa dE (aa (QP (show¬(vi F.ns x).1=.int ((40+j:Nat):Int) fromλe=>m (X7 (qB e)▸.head _))) (aa (ih λq=>m (.tail _ q)) rfl)))
 exact g _ λm=>Nat.lt_irrefl _ (UD.mp m)
noncomputable def nA:Ro:=[("nums",.s 44),("out",.s 7)]
theorem Kj{m:Int}(hl:l.length<ah)(k:∀ρ,bz nA ρ->K.ay ρ ⟨t0 F (bX l (.int ((40+j:Nat):Int)) (.d (kY m).d)),[]⟩):aD (Ss.dr 1 (Ss.bd 1 qq.body)) (aL B n (nA++[("i",.d (.int j)),("n",.d (.int m))]) Z) ⟨t0 F l,[]⟩ K:=by
 have hc:((((m.fdiv 12).fmod 3).toNat:Nat):Int)=(m.fdiv 12).fmod 3:=VU (Up _ (by decide));have ed:(kY m).d=.tuple [.int (mw (m.fmod 3)),.str (gK ((m.fdiv 3).fmod 4)),.int ((m.fdiv 12).fmod 3),.int ((m.fdiv 108).fmod 2),.int (l6 ((m.fdiv 36).fmod 3))]:=QQ (λc:Int=>RC [.int (mw (m.fmod 3)),.str (gK ((m.fdiv 3).fmod 4)),.int c,.int ((m.fdiv 108).fmod 2),.int (l6 ((m.fdiv 36).fmod 3))]) hc;have ok:=(F3 (t:=kY m) (JG _)).ok (by decide);rw [ed] at ok k;unfold l6 at ok k;refine Wo.of (x:=.str (QJ "L`")) (by kernel_rfl) ?_;refine Wo.of (x:=.str (QJ "L`1")) (by kernel_rfl) ?_;refine Gd.of (by decide+kernel) ?_;refine Wo.kC (JF (m.fdiv 3)) ?_;refine Wo.kC (Py m) ?_;by_cases h:(m.fdiv 36).fmod 3=0
 ·rw [QR h] at ok k
  exact Br.ey h (Gd.ok ok (Gd.lim hl (k _ ⟨rfl,rfl,trivial⟩)))
 ·rw [QP h] at ok k
  exact Br.en h (Gd.ok ok (Gd.lim hl (k _ ⟨rfl,rfl,trivial⟩)))
theorem Kk(h16:0<F.ns.length/\F.ns.length<=16)(hj:j<8)(k:∀ρ,bz nA ρ->K.ay ρ ⟨t0 F (kZ F.ns (j+1)),[]⟩):aD (Ss.bd 1 qq.body) (aL B n (nA++[("i",.d (.int j))]) Z) ⟨t0 F (kZ F.ns j),[]⟩ K:=by
 have hm:j%F.ns.length<F.ns.length:=Nat.mod_lt _ h16.1;have e1:(iW F.ns)[j%F.ns.length]?=some (.d (.int (F.ns.getD (j%F.ns.length) 0))):=ku (by refine aa (T7 hm) (aa (List.getD_eq_getElem?_getD) (aa (T7 hm) ?_));rfl);have lp:=Rc (Ur.mpr h16.1);have lb:(decide ((F.ns.length:Int)<1000000000))=true:=Rc (by lia);have dj:j/F.ns.length<8:=QO (Nat.div_le_self ..) hj;have dq:(decide ((0:Int)<((j/F.ns.length:Nat):Int)+1)&&decide (((j/F.ns.length:Nat):Int)+1<1000000000))=true:=by rewrite [Rc (XJ (R7 (j/F.ns.length))),Rc (show((j/F.ns.length:Nat):Int)+1<1000000000 from R5.mpr (SH (UI dj) (by decide)))];rfl
 refine wh h16.2 ?_;refine Wo.of (by refine (?_:(aR _ (some _)).map _=_);(refine aa lp ?_;rewrite [Mj]);rfl) ?_;refine Wo.at (at_of (Rt hm (QO h16.2 (by decide+kernel))) e1) ?_;refine wh h16.2 ?_;refine Wo.of (by refine (?_:(aR (_&&_) (some _)).map _=_);rewrite [lp,lb,MA];rfl) ?_;refine Wo.of (Nq dq) ?_;refine Wo.of (AW rfl (i9 (Rt hj (by decide)))) ?_;exact Kj (m:=nN F.ns j) (by unfold kZ;(rewrite [QX];refine aa Sw ?_);exact Rt hj (by decide+kernel)) λρ r=>by refine aa (Ir Fg) ?_;unfold kZ at k;rw [UZ,Rq] at k;exact k ρ r
end
section
variable{B:Bs}{F:Fx}{n j:Nat}{Q:W->HP->Prop}{Z:QI->QI->HP->Prop}{tl:List af}{K:Kw}{p:HP}{l:List (QI×W)}(hB:aJ B)
include hB
theorem KG(ht:F.ti=jU F.ns)(h16:0<F.ns.length/\F.ns.length<=16)(q:Q (.s 7) (t0 F (iZ F))):aq B (n+1) "_law_types" [.s 44] (n0 F) Q Z:=by
 refine .df hB 59 rfl rfl ⟨1,.s 7,rfl,?_⟩;refine (?_:bI gF (mF "i") (bS (aD (Ss.bd 1 qq.body)) (eQ B n Z)) ⟨Sq (aD (Ss.dr 2 qq.body)) (eQ B n Z) (bO Q),Q,kF⟩ (fA 0 ((8:Nat):Int)) nA ⟨t0 F [],[]⟩);refine vk z9 ?_;refine si (λj ρ h=>bz nA ρ/\h=⟨t0 F (kZ F.ns j),[]⟩) (λρ h i=>?_) (λj hj ρ h M ih i=>?_) ⟨⟨rfl,rfl,trivial⟩,rfl⟩
 ·obtain ⟨s,rfl⟩:=i
  refine ⟨trivial,_,s,?_⟩;have e:iZ F=bX (bX (bX (kZ F.ns 8) (.int 48) (.d (.tuple [.int 2,.str (QJ "L"),.int 0,.int 0,.int 0]))) (.int 49) (.d (.tuple [.int 2,.str (QJ "L"),.int 1,.int 0,.int 0]))) (.int 50) (.d (.tuple [.int 2,.str (QJ "M"),.int 0,.int 1,.int 1])):=by unfold iZ;refine aa ht ?_;rfl
  rw [e] at q;refine Gd.of (by decide+kernel) (Gd.lim (show 8<ah by decide+kernel) ?_);refine Gd.of (by decide+kernel) (Gd.lim (show 9<ah by decide+kernel) ?_);exact Gd.of (by decide+kernel) (Gd.lim (show 10<ah by decide+kernel) q)
 ·obtain ⟨s,rfl⟩:=i
  exact ⟨trivial,_,s,Kk h16 hj λρ r=>ih _ _ ⟨r,rfl⟩⟩
end
theorem CG{F:Fx}(ht:F.ti=jU F.ns):aE F:=by
 have ty:∀t,40<=t/\t<=50->(∃m,F.ti t=kY m)\/F.ti t=⟨2,QJ "L",0,0,0⟩\/F.ti t=⟨2,QJ "L",1,0,0⟩\/F.ti t=⟨2,QJ "M",0,1,1⟩:=λt h=>by
  refine aa ht ?_;unfold jU;by_cases a:t<48
  ·refine aa (QR a) ?_;exact .inl ⟨_,rfl⟩
  ·refine aa (QP a) ?_
   by_cases b:t=48
   ·refine aa (QR b) ?_;exact .inr (.inl rfl)
   ·refine aa (QP b) ?_
    by_cases c:t=49
    ·refine aa (QR c) ?_;exact .inr (.inr (.inl rfl))
    ·refine aa (QP c) ?_;exact .inr (.inr (.inr rfl))
 have lo:∀t,40<=t/\t<=47->∃m,F.ti t=kY m:=λt h=>by refine aa ht ?_;unfold jU;refine aa (QR (SE h.2 (by decide))) ?_;exact ⟨_,rfl⟩
 refine ⟨λt h=>?_,λt h=>?_,λt h=>?_,λt h=>?_,by refine aa ht ?_;rfl,by refine aa ht ?_;rfl,by refine aa ht ?_;rfl⟩
 ·rcases ty t h with⟨m,e⟩|e|e|e<;>refine aa e ?_
  ·obtain ⟨j,hj,ej⟩:=fO (m.fdiv 12) 3 (by decide)
   have ej:=ej;refine (?_:((m.fdiv 12).fmod 3).toNat<=2);refine aa ej ?_;exact TZ hj
  all_goals decide
 ·obtain ⟨m,e⟩:=lo t h
  refine aa e ?_;refine (?_:dy (mw _));unfold mw;by_cases a:m.fmod 3=0
  ·refine aa (QR a) ?_;exact .inr (.inl rfl)
  ·refine aa (QP a) ?_
   by_cases b:m.fmod 3=1
   ·refine aa (QR b) ?_;exact .inr (.inr rfl)
   ·refine aa (QP b) ?_;exact .inl rfl
 ·rcases ty t h with⟨m,e⟩|e|e|e<;>refine aa e ?_
  ·refine (?_:gK _=_\/gK _=_\/gK _=_)
   unfold gK;by_cases a:(m.fdiv 3).fmod 4=3
   ·refine aa (QR a) ?_;exact .inr (.inr rfl)
   ·refine aa (QP a) ?_
    by_cases b:(m.fdiv 3).fmod 4=2
    ·refine aa (QR b) ?_;exact .inr (.inl rfl)
    ·refine aa (QP b) ?_;exact .inl rfl
  ·exact .inl rfl
  ·exact .inl rfl
  ·exact .inr (.inl rfl)
 ·rcases ty t h with⟨m,e⟩|e|e|e<;>refine aa e ?_
  ·refine (?_:l6 _=_\/l6 _=_)
   unfold l6;by_cases a:(m.fdiv 36).fmod 3=0
   ·refine aa (QR a) ?_;exact .inr rfl
   ·refine aa (QP a) ?_;exact .inl rfl
  ·exact .inl rfl
  ·exact .inl rfl
  ·exact .inr rfl
theorem Nk{F:Fx}(ht:F.ti=jU F.ns)(e:F.ns=[12,17,305]):u3 F:=by
 have h:∀t,(F.ti t).count=(jU [12,17,305] t).count:=λt=>by exact aa ht (aa e rfl)
 exact ⟨(h _).trans (by decide+kernel),(h _).trans (by decide+kernel),(h _).trans (by decide+kernel),(h _).trans (by decide+kernel)⟩
section
variable{B:Bs}{F:Fx}{n j:Nat}{Q:W->HP->Prop}{Z:QI->QI->HP->Prop}{tl:List af}{K:Kw}{p:HP}{r:List (Option af)}{f:Nat->Int->Option af}{g:List af}(hB:aJ B)
noncomputable def sv(i:Nat):QI:=.tuple [.int 1,.int i]
def hU(j:Nat):List QI:=(RP j).map sv
noncomputable def BN(R:List QI)(D We O:List Int)(r:List (Option af)):List (Option af):=some (.obj "KindTable" [("rows",.s 1),("index",.s 2),("depths",.s 3),("weights",.s 4),("opens",.s 5)])::some (.lst (dW R))::some (.aj 3 (cy 0 R))::some (.lst (iW D))::some (.lst (iW We))::some (.lst (iW O))::r
noncomputable def lR(j:Nat)(r:List (Option af)):List (Option af):=BN (hU j) (Q4 j 1) (Q4 j 1) (Q4 j 0) r
theorem Iy:sv j∉hU j:=λm=>(Su.mp m).elim λi e=>SP (UD.mp e.1) (qB (RB (cE e.2).2).1)
theorem Ar:hU j++[sv j]=hU (j+1):=by unfold hU;refine aa UZ (aa Rq ?_);rfl
theorem z0{i:Int}:iW (Q4 j i)++[.d (.int i)]=iW (Q4 (j+1) i):=nZ.trans (QQ iW XK.symm)
theorem Ld(hj:j<16)(k:∀ρ,bz [("self",W.s 0)] ρ->K.ay ρ ⟨⟨lR (j+1) r,f,g⟩,[]⟩):aD (Ss.bd 5 yn.body) (aL B n [("self",.s 0),("number",.d (.int j))] Z) ⟨⟨lR j r,f,g⟩,[]⟩ K:=by
 have l1:(dW (hU j)).length<ah:=by refine aa cp ?_;unfold hU;(rewrite [QX];refine aa Sw ?_);exact Rt hj (by decide+kernel)
 have l2:(cy 0 (hU j)).length<ah:=by refine aa nh (a9 cp ?_);exact l1
 have l3:∀i:Int,(iW (Q4 j i)).length<ah:=λi=>by refine aa dU (aa TP ?_);exact Rt hj (by decide+kernel)
 refine Gd.lim l1 (Gd.lim l2 (Gd.lim (l3 1) (Gd.lim (l3 1) (Gd.lim (l3 0) ?_))))
 have e2:=by
  have h:0+(hU j).length=j:=by unfold hU;(rewrite [QX];refine aa Sw ?_;rewrite [Sv];rfl)
  have:=we (k:=0) (Iy (j:=j));rw [h,Ar] at this;exact this
 have k:=k [("self",W.s 0),("number",.d (.int j)),("row",.d (sv j))] ⟨rfl,trivial⟩;unfold lR BN at k;rw [←z0,←z0,←e2,←Ar,←gb] at k;exact k
end
section
variable{B:Bs}{F:Fx}{n j:Nat}{Q:W->HP->Prop}{Z:QI->QI->HP->Prop}{tl:List af}{K:Kw}{p:HP}{r:List (Option af)}{f:Nat->Int->Option af}{g:List af}(hB:aJ B)
include hB
theorem La(q:Q (.s 0) ⟨lR 16 r,f,g⟩):aq B (n+2) "KindTable" [] ⟨none::none::none::none::none::none::r,f,g⟩ Q Z:=(hB.c 0 _ _ rfl).elim λD hC=>.cls hC (by rfl) (hB.x 0 _ _ rfl) (.s 0) rfl rfl (.df hB 0 rfl rfl (by
 refine ⟨.s 1,rfl,3,.s 2,rfl,.s 3,rfl,.s 4,rfl,.s 5,rfl,?_⟩;refine (?_:bI gF (mF "number") (bS (aD (Ss.bd 5 yn.body)) (eQ B n (λ_ _ _=>False))) ⟨Sq (aD .nil) (eQ B n (λ_ _ _=>False)) (bO λv p=>v=.d .none/\Q (.s 0) p),λv p=>v=.d .none/\Q (.s 0) p,kF⟩ (fA 0 ((16:Nat):Int)) [("self",.s 0)] ⟨⟨lR 0 r,f,g⟩,[]⟩);refine vk z9 ?_;refine si (λj ρ h=>bz [("self",W.s 0)] ρ/\h=⟨⟨lR j r,f,g⟩,[]⟩) (λρ h i=>?_) (λj hj ρ h M ih i=>?_) ⟨⟨rfl,trivial⟩,rfl⟩
 ·obtain ⟨s,rfl⟩:=i
  exact ⟨trivial,_,s,rfl,q⟩
 ·obtain ⟨s,rfl⟩:=i
  exact ⟨trivial,_,s,Ld hj λρ r=>ih _ _ ⟨r,rfl⟩⟩))
end
section
variable{B:Bs}{F:Fx}{n j:Nat}{Q:W->HP->Prop}{Z:QI->QI->HP->Prop}{tl:List af}{K:Kw}{p:HP}{r:List (Option af)}{f:Nat->Int->Option af}{g:List af}{f8:List W}(hB:aJ B)
noncomputable def wR(F:Fx)(f8:List W)(b:List (Option af))(c:Option af):List (Option af):=some (.aj 2 ((sS "types",.s 7)::o3 bA))::some (.aj 1 (iZ F))::some (.lst f8)::some (.lst [])::some (.lst [])::some (.lst [])::some (.lst [])::some (.lst [])::some (.lst [])::(b++(Q4 23 none++[some (.lst (iW F.ns)),c]))
noncomputable def sX(r:List (Option af)):List (Option af):=none::none::none::none::none::none::r
noncomputable def vC(t:Nat):af:=.obj "Store" [("kt",.s 0),("types",.s t),("fields_",.s 17),("methods",.s 18),("names",.s 19),("asms",.s 20),("entry",.d (.int 0))]
noncomputable def n1:Option af:=some (.lst [.d .none])
include hB
theorem Gz(q:Q (.s 15) ⟨lR 16 (wR F f8 [some (vC 45),none,n1,n1,some (.aj 3 []),some (.lst [])] n1),f,g⟩):aq B (n+4) "Store" [] ⟨sX (wR F f8 (Q4 6 none) none),f,g⟩ Q Z:=(hB.c 6 _ _ rfl).elim λD hC=>.cls hC (by rfl) (hB.x 31 _ _ rfl) (.s 15) rfl rfl (.df hB 31 rfl rfl (by
 refine Gd.of rfl (La hB ?_);exact ⟨.s 45,rfl,.s 17,rfl,.s 18,rfl,3,.s 19,rfl,.s 20,rfl,rfl,q⟩))
theorem ER(ht:F.ti=jU F.ns)(h16:0<F.ns.length/\F.ns.length<=16)(k:K.ay [("script",.g 4),("nums",.s 44),("w",.s 6)] ⟨⟨sX (wR F [.d .none] (Q4 6 none) none),λ_ _=>none,gc F⟩,tl⟩):wpS (Ss.hd 2 fj.body) (aL B (n+1) [("script",.g 4),("nums",.s 44)] Z) ⟨n0 F,tl⟩ K:=by
 refine Gd.of rfl (KG hB ht h16 ?_);exact ⟨.s 8,rfl,.s 9,rfl,.s 10,rfl,.s 11,rfl,.s 12,rfl,.s 13,rfl,.s 14,rfl,.s 6,rfl,k⟩
end
def cD(m k:Nat)(i:Int):Prop:=i=0/\13<=k/\k<13+m
def dC(a m:Nat)(t:Int)(k:Nat)(i:Int):Prop:=i=t/\a<=k/\k<a+m
section
variable{a m:Nat}{t:Int}
noncomputable def Gr(a m:Nat)(t:Int)(k:Nat)(i:Int):W:=if i=0/\13<=k/\k<13+m then .f (a+(k -13)) t else if i=t/\a<=k/\k<a+m then .f (13+(k -a)) 0 else .f k i
noncomputable def sw(a m:Nat)(t:Int)(w:W):W:=w.casesOn .d .bb .s (Gr a m t) .g .t
noncomputable def af.lA(r:W->W)(c:af):af:=c.casesOn (λl=>.lst (l.map r)) (λt l=>.aj t (l.map λp=>(p.1,r p.2))) (λn l=>.obj n (l.map λp=>(p.1,r p.2))) .cH
theorem mT{k:Nat}{i:Int}(h:cD m k i):sw a m t (.f k i)=.f (a+(k -13)) t:=QR h
theorem pv{k:Nat}{i:Int}(h:dC a m t k i)(n:¬cD m k i):sw a m t (.f k i)=.f (13+(k -a)) 0:=(QP n).trans (QR h)
theorem mU{k:Nat}{i:Int}(h:¬dC a m t k i)(n:¬cD m k i):sw a m t (.f k i)=.f k i:=(QP n).trans (QP h)
theorem AR{k:Nat}{i:Int}(t0:t≠0)(h:dC a m t k i):¬cD m k i:=λz=>t0 (h.1.symm.trans z.1)
theorem vz(t0:t≠0) w:sw a m t (sw a m t w)=w:=by
 cases w with
 |f k i=>
  by_cases h:cD m k i
  ·rw [mT h,pv ⟨rfl,Ra ..,Tv ((Td h.2.1).mpr (RO m 13▸h.2.2):k -13<m) a⟩ λz=>t0 z.1,Sx,h.1,VW h.2.1]
  ·by_cases g:dC a m t k i
   ·have hk:=(Td g.2.1).mpr (RO m a▸g.2.2)
    rw [pv g h,mT ⟨rfl,Ra ..,Tv hk 13⟩,Sx,g.1,VW g.2.1]
   ·exact aa (mU g h) (aa (mU g h) rfl)
 |_=>rfl
theorem lq w:(sw a m t w).nt=w.nt/\(sw a m t w).top=w.top:=by
 cases w with
 |f k i=>
  by_cases h:cD m k i
  ·refine aa (mT h) ?_;exact ⟨rfl,rfl⟩
  ·by_cases g:dC a m t k i
   ·refine aa (pv g h) ?_;exact ⟨rfl,rfl⟩
   ·refine aa (mU g h) ?_;exact ⟨rfl,rfl⟩
 |_=>exact ⟨rfl,rfl⟩
noncomputable def eF(L:Lm)(a m:Nat)(t:Int):Lm:=λw=>L (sw a m t w)
theorem rB(t0:t≠0){L:Lm}{w:W}{v:V}(h:au L w v):au (eF L a m t) (sw a m t w) v:=by
 have g:∀{w},Rf L w v->Rf (eF L a m t) (sw a m t w) v:=λ{w} h=>h.imp λp z=>⟨(QQ L (vz t0 w)).trans z.1,z.2⟩;have s:∀{w},w.nt=true->Rf (eF L a m t) w v->w.top=false->(∃k i,w=.f k i)->au (eF L a m t) w v:=λ_ h _ e=>e.elim λk e=>e.elim λi e=>by subst e;exact h
 cases w with
 |d _=>exact h
 |bb=>exact h
 |f k i=>
  have h:=h;refine s ((lq _).1.trans rfl) (g h) ((lq _).2.trans rfl) ?_;by_cases h:cD m k i
  ·exact ⟨_,_,mT h⟩
  ·by_cases g:dC a m t k i
   ·exact ⟨_,_,pv g h⟩
   ·exact ⟨_,_,mU g h⟩
 |s k=>exact g h
 |g k=>exact g h
 |t k=>exact g h
theorem Be{L:Lm}{w:W}:eF (Lw L (sw a m t w)) a m t=Lw (eF L a m t) w:=by
 funext x
 refine (?_:Lw L (sw a m t w) (sw a m t x)=Lw (eF L a m t) w x);unfold Lw;refine aa ((lq w).1) ?_
 cases w.nt with
 |false=>rfl
 |true=>exact QQ (λb=>aR b (L (sw a m t x))) (lq x).1
end
section
variable{B:Bs}{a m:Nat}{t:Int}{L L1:Lm}{σ σ':Map}{p q:HP}{w:W}{x:Q5×Q5}{c:af}
theorem ai.wN{α β γ:Type}{P:α->β->Prop}{P':γ->β->Prop}{g:α->γ}{as:List α}{bs:List β}(j:∀a b,P a b->P' (g a) b)(r:ai P as bs):ai P' (as.map g) bs:=r.rec .nil λh _ ih=>.cons (j _ _ h) ih
theorem Own.to{w w':W}{a:Q5}{c:Cell}(e:w'.top=w.top)(h:Own B σ w a c):Own B σ w' a c:=by unfold Own at*;refine aa e ?_;exact h
theorem NZ(t0:t≠0)(h:eH B L1 σ (sw a m t w) x c):eH B (eF L1 a m t) σ w x (c.lA (sw a m t)):=by
 have g:∀{y v},au (Lw L1 (sw a m t w)) y v->au (Lw (eF L1 a m t) w) (sw a m t y) v:=λh=>Be▸rB t0 h;have e:=(lq (a:=a) (m:=m) (t:=t) w).2.symm
 cases c with
 |lst l=>exact ⟨h.1,h.2.imp λ_ z=>⟨z.1.to e,z.2.wN λ_ _ h=>g h⟩⟩
 |aj n l=>exact ⟨h.1,h.2.imp λ_ z=>⟨z.1.to e,z.2.wN λ_ _ h=>⟨h.1,g h.2⟩⟩⟩
 |obj n l=>exact ⟨e▸h.1,h.2.imp λ_ z=>⟨z.1,z.2.1,z.2.2.wN λ_ _ h=>⟨h.1,g h.2⟩⟩⟩
 |cH=>exact ⟨e▸h.1,h.2⟩
theorem N0(t0:t≠0)(old:∀x,L x≠none->sw a m t x=x)(hw:sw a m t w=w){x0:Q5×Q5}(h:eH B L1 σ' w x c)(h0:eH B L σ w x0 c):eH B (eF L1 a m t) σ' w x c:=by
 have g:∀y v v0,au (Lw L1 w) y v->au (Lw L w) y v0->au (Lw (eF L1 a m t) w) y v:=λy v v0 h h0=>by
  have e:sw a m t y=y:=by
   have s:∀y,Rf (Lw L w) y v0->sw a m t y=y:=λy h=>old y (h.elim λp z=>λn=>nomatch n.symm.trans (Lw.le y p z.1))
   cases y with
   |d _=>rfl
   |bb=>rfl
   |_=>exact s _ h0
  have k:=rB (a:=a) (m:=m) t0 h;have u:=Be (a:=a) (m:=m) (t:=t) (L:=L1) (w:=w);rw [hw] at u;rw [e,u] at k;exact k
 cases c with
 |lst l=>exact ⟨h.1,h.2.imp λ_ z=>⟨z.1,h0.2.elim λ_ y=>ai.nY g z.2 y.2⟩⟩
 |aj n l=>exact ⟨h.1,h.2.imp λ_ z=>⟨z.1,h0.2.elim λ_ y=>ai.nY (λ_ _ _ h h'=>⟨h.1,g _ _ _ h.2 h'.2⟩) z.2 y.2⟩⟩
 |obj n l=>exact ⟨h.1,h.2.imp λ_ z=>⟨z.1,z.2.1,h0.2.elim λ_ y=>ai.nY (λ_ _ _ h h'=>⟨h.1,g _ _ _ h.2 h'.2⟩) z.2.2 y.2.2⟩⟩
 |cH=>exact h
structure yL(p q:HP) m(cs:Nat->af):Prop where
 s:q.s=p.s
 g:q.g=p.g
 o:∀k i,¬cD m k i->q.f k i=p.f k i
 n:∀k i,cD m k i->q.f k i=some (cs (k -13))
def pJ(p:HP)(a m:Nat)(t:Int)(cs:Nat->af)(k:Nat)(i:Int):Option af:=if dC a m t k i then some ((cs (k -a)).lA (sw a m t)) else p.f k i
def lz(p:HP)(a m:Nat)(t:Int)(cs:Nat->af):HP:=⟨p.s,pJ p a m t cs,p.g⟩
theorem av.lA{cs:Nat->af}(t0:t≠0)(fr:∀k i,cD m k i\/dC a m t k i->p.f k i=none)(T:yL p q m cs)(R:av B L ⟨p,[]⟩ σ)(R1:av B L1 ⟨q,[]⟩ σ'):(∀x,L x≠none->sw a m t x=x)/\av B (eF L1 a m t) ⟨lz p a m t cs,[]⟩ σ':=by
 have old:∀x,L x≠none->sw a m t x=x:=λx n=>by
  cases x with
  |f k i=>exact mU (λh=>n (R.dh _ (fr k i (.inr h)))) λh=>n (R.dh _ (fr k i (.inl h)))
  |_=>rfl
 have oc:∀w c,Hs.get ⟨p,[]⟩ w=some c->Hs.get ⟨q,[]⟩ w=some c->∃x,eF L1 a m t w=some x/\eH B (eF L1 a m t) σ' w x c:=λw c e e1=>by
  obtain ⟨x0,l0,c0⟩:=R.cell w c e;obtain ⟨x,l,h⟩:=R1.cell w c e1;have hw:=old w (l0▸Q1 _);exact ⟨x,(QQ L1 hw).trans l,N0 t0 old hw h c0⟩
 refine ⟨old,λw c e=>?_,λw e=>?_,λw w' x y ex ey ne nt nt'=>?_,λx w e=>?_⟩
 ·cases w with
  |f k i=>
   by_cases h:dC a m t k i
   ·have e':=(QR h).symm.trans e
    have st:=pv h (AR t0 h);have hk:cD m (13+(k -a)) 0:=⟨rfl,Ra ..,Tv ((Td h.2.1).mpr (RO m a▸h.2.2)) 13⟩;have e1:=T.n _ _ hk;rw [Sx] at e1;obtain ⟨x,l,hc⟩:=R1.cell (.f (13+(k -a)) 0) _ e1;exact ⟨x,(QQ L1 st).trans l,QK e'▸NZ t0 (st.symm▸hc)⟩
   ·have e':=(QP h).symm.trans e
    exact oc _ c e' ((T.o k i λz=>nomatch e'.symm.trans (fr k i (.inl z))).trans e')
  |s j=>exact oc _ c e (by refine (?_:jn (aV q.s j)=_);refine aa T.s ?_;exact e)
  |g j=>exact oc _ c e (by refine (?_:aV q.g j=_);refine aa T.g ?_;exact e)
  |_=>exact aX e
 ·refine R1.dh _ ?_
  cases w with
  |f k i=>
   by_cases g:cD m k i
   ·have hn:dC a m t (a+(k -13)) t:=⟨rfl,Ra ..,Tv ((Td g.2.1).mpr (RO m 13▸g.2.2)) a⟩
    refine aa (mT g) ?_;exact (T.o _ _ (AR t0 hn)).trans (fr _ _ (.inr hn))
   ·by_cases h:dC a m t k i
    ·exact nomatch(QR h).symm.trans e
    ·refine aa (mU h g) ?_
     exact (T.o k i g).trans ((QP h).symm.trans e)
  |s j=>show jn (aV q.s j)=_;refine aa T.s ?_;exact e
  |g j=>show aV q.g j=_;refine aa T.g ?_;exact e
  |_=>rfl
 ·exact R1.sep _ _ _ _ ex ey (λz=>ne ((vz t0 w).symm.trans ((QQ (sw a m t) z).trans (vz t0 w')))) ((lq w).2.trans nt) ((lq w').2.trans nt')
 ·refine ⟨(R1.gv x w e).1,(R1.gv x w e).2.imp λv z=>⟨z.1,?_⟩⟩
  have r0:=(R.gv x w e).2
  have hw:sw a m t w=w:=by
   have s:∀w v0,Rf L w v0->sw a m t w=w:=λw v0 h=>old w (h.elim λp z=>z.1▸Q1 _)
   cases w with
   |d _=>rfl
   |bb=>rfl
   |_=>exact r0.elim λv0 z=>s _ v0 z.2
  exact (QQ (λw=>au (eF L1 a m t) w v) hw).mp (rB t0 z.2)
theorem aq.lA{n:Nat}{f:String}{ws:List W}{Q:W->HP->Prop}{X:QI->QI->HP->Prop}{cs:Nat->af}(t0:t≠0)(fr:∀k i,cD m k i\/dC a m t k i->p.f k i=none)(hm:0<m)(h:aq B n f ws p (λw q=>w=.f 13 0/\yL p q m cs) λ_ _ _=>False)(k:Q (.f a t) (lz p a m t cs)):aq B n f ws p Q X:=λL σ vs R r=>
 (h L σ vs R r).mono (λv σ' y=>az y λL1 w h1 z=>by
  obtain ⟨le,R1,wr,rfl,T⟩:=z;have R2:=av.lA t0 fr T R R1;have wr2:=rB (a:=a) (m:=m) t0 wr;rw [mT ⟨rfl,Rl _,Sy hm⟩] at wr2;refine ⟨eF L1 a m t,.f a t,_,λx y e=>?_,R2.2,wr2,k⟩;have e0:=Ln.le x y e;exact (QQ L1 (R2.1 x (e0▸Q1 _))).trans (le x y e)) λa b σ' y=>ao y λ_ _ z=>z.2.2.elim
end
def j0(l:List (Option af))(f:Nat->Int->Option af)(k:Nat)(i:Int):Option af:=if cD l.length k i then jn (aV l (k -13)) else f k i
def bR(p:HP)(l:List (Option af)):HP:=⟨p.s,j0 l p.f,p.g⟩
section
variable{B:Bs}{F:Fx}{n k m:Nat}{Q:W->HP->Prop}{p:HP}{t:Int}{l:List (Option af)}{tl:List af}{c:af}{o:Option af}
theorem Ch{α:Type}{l:List α}{k:Nat}{x:α}(h:aV l k=some x):k<l.length:=j5 (idx_eq.symm.trans h)
theorem E8{α:Type}{l:List α}{k:Nat}{x:α}:(upd l k x).length=l.length:=by exact aa pb (aa List.length_set rfl)
theorem zo(h:k<m):cD m (13+k) 0:=⟨rfl,Ra ..,Tv h 13⟩
theorem m9(h:aV l k=some o):Hs.get ⟨bR p l,tl⟩ (.f (13+k) 0)=o:=(QR (zo (Ch h)):j0 l p.f (13+k) 0=_).trans (by(rewrite [Sx];refine aa h ?_);rfl)
theorem I7(h:aV l k=some o):(λj m=>if j=13+k/\m=0 then some c else j0 l p.f j m)=j0 (upd l k (some c)) p.f:=by
 funext j i
 unfold j0;refine aa E8 ?_;by_cases e:j=13+k/\i=0
 ·rw [QR e,QR (e.1▸e.2▸zo (Ch h)),e.1,Sx,iw (h▸Q1 _),QR rfl];rfl
 ·refine aa (QP e) ?_
  by_cases g:cD l.length j i
  ·exact aa (QR g) (aa (QR g) (aa (iw (h▸Q1 _)) (aa (QP λz=>e ⟨by rw [←z,VW g.2.1],g.1⟩) rfl)))
  ·exact aa (QP g) (aa (QP g) rfl)
theorem sE(h:aV l k=some o):(⟨bR p l,tl⟩:Hs).set (.f (13+k) 0) c=⟨bR p (upd l k (some c)),tl⟩:=QQ (λf=>(⟨⟨p.s,f,p.g⟩,tl⟩:Hs)) (I7 h)
theorem step{s:Internal.S}{r:Ss}{h:Hs}{K:Kw}{C:Wk}{ρ:Ro}(q:wpS s ⟨C,ρ⟩ h ⟨Sq (aD r) C K,K.ret,K.cnt⟩):aD (.cons s r) ⟨C,ρ⟩ h K:=q
theorem xN{w:W}{l:Nat×List W}{xs:List String}{e:E}{a:Ss}{cx:Wc}{h:Hs}{K:Kw}(κ:(xs.all λx=>cS (look cx.κ x))=true)(ev:∀Q:W->Hs->Prop,Q w h->aZ e cx h Q)(it:cc h w=some l)(q:bI (lF w l) (gY xs) (bS (aD a) cx.toWk) K l.2 cx.ρ h):wpS (.jr xs e a) cx h K:=Gd.of κ (ev _ (Wo.of it q))
theorem w5{k:Nat}(h:Uv k 100=true):Si k ah=true:=Tg.mpr (QO (Xs h) (by decide+kernel))
theorem dX{w:W}{cx:Wc}{x nm:String}{e:E}{A:Ro}{K:Kw}(lk:look cx.ρ "self"=some (.f 13 0))(ev:∀Q:W->Hs->Prop,Q w ⟨bR p l,tl⟩->aZ e cx ⟨bR p l,tl⟩ Q)(o:aV l 0=some (some (.obj nm A)))(ha:Uv A.length 100=true)(nt:w.nt=true)(q:K.ay cx.ρ ⟨bR p (upd l 0 (some (.obj nm (dk A x w)))),tl⟩):wpS (.gp (.lv "self") x e) cx ⟨bR p l,tl⟩ K:=ev _ (Wo.of lk (Wo.of (QQ jd (m9 o)) (Gd.of (by refine aa (w5 ha) ?_;exact nt) ((QQ (K.ay cx.ρ) (sE o)).mpr q))))
theorem ju{cx:Wc}{x nm:String}{A:Ro}{K:Kw} k(lk:look cx.ρ "self"=some (.f 13 0))(fr:aV l (k+1)=some none)(o:aV l 0=some (some (.obj nm A)))(ha:Uv A.length 100=true)(q:K.ay cx.ρ ⟨bR p (upd (upd l (k+1) (some (.lst []))) 0 (some (.obj nm (dk A x (.f (13+(k+1)) 0))))),tl⟩):wpS (.gp (.lv "self") x (.lst .nil)) cx ⟨bR p l,tl⟩ K:=
 have o':=(iw (fr▸Q1 _)).trans ((QP (Zo k).symm).trans o)
 have g:∀h:Hs,h=⟨bR p (upd l (k+1) (some (.lst []))),tl⟩->Wo (look cx.ρ "self") λv=>Wo (jd (h.get v)) λp=>Gd (Si p.2.length ah&&j1 v (.f (13+(k+1)) 0)) (K.ay cx.ρ (h.set v (.obj p.1 (dk p.2 x (.f (13+(k+1)) 0))))):=λh e=>by
  subst e;exact Wo.of lk (Wo.of (QQ jd (m9 o')) (Gd.of (by refine aa (w5 ha) ?_;rfl) ((QQ (K.ay cx.ρ) (sE o')).mpr q)))
 ⟨.f (13+(k+1)) 0,m9 fr,Gd.of rfl (g _ (sE fr))⟩
theorem yD{w:W}{cx:Wc}{x nm:String}{e:E}{A:Ro}{K:Kw}{xs:List W} k(lk:look cx.ρ "self"=some (.f 13 0))(ch:cx.h=false)(o:aV l 0=some (some (.obj nm A)))(ox:look A x=some (.f (13+k) 0))(ol:aV l k=some (some (.lst xs)))(ev:∀Q:W->Hs->Prop,Q w ⟨bR p l,tl⟩->aZ e cx ⟨bR p l,tl⟩ Q)(hl:xs.length<ah)(nt:w.nt=true)(q:K.ay cx.ρ ⟨bR p (upd l k (some (.lst (xs++[w])))),tl⟩):wpS (.ex (.met (.aF (.lv "self") x) "append" (.cons e .nil))) cx ⟨bR p l,tl⟩ K:=Gd.of (QQ (λb:Bool=>!b) ch) (Wo.of lk (Wo.of ((QQ (λo=>(jd o).bind λp=>look p.2 x) (m9 o)).trans ox) (iO.app (m9 ol) (Gd.of rfl (ev _ (Wo.lst (m9 ol) (Gd.lim hl (Gd.of nt ((QQ (K.ay cx.ρ) (sE ol)).mpr q)))))))))
theorem I6(fr:∀k i,cD (m+1) k i->p.f k i=none):(⟨⟨p.s,λj n=>if j=13/\n=0 then some c else p.f j n,p.g⟩,[]⟩:Hs)=⟨bR p (some c::Q4 m none),[]⟩:=QQ (λf=>(⟨⟨p.s,f,p.g⟩,[]⟩:Hs)) (by
 funext j i
 unfold j0;have hl:(some c::Q4 m none).length=m+1:=QQ TX TP;refine aa hl ?_;by_cases e:j=13/\i=0
 ·refine aa (QR e) (aa (QR ⟨e.2,R4 e.1.symm,e.1▸Sy (Tw m)⟩) (aa e.1 ?_));rfl
 ·refine aa (QP e) ?_
  by_cases g:cD (m+1) j i
  ·refine aa (QR g) (aa (fr j i g) ?_)
   obtain ⟨x,hx⟩:∃x,j -13=x+1:=⟨j -13 -1,(Yw (Nat.sub_pos_of_lt (Wn g.2.1 λz=>e ⟨z.symm,g.1⟩))).symm⟩;have hm:=Xi (show x+1<m+1 from hx▸(Td g.2.1).mpr (RO (m+1) 13▸g.2.2));refine aa hx ?_;refine aa idx_eq (aa (W5) (aa (QR hm) ?_));rfl
  ·exact aa (QP g) rfl)
def iJ(cs:List af)(k:Nat):af:=(aV cs k).rec .cH id
theorem I5{cs:List af}:yL p (bR p (cs.map some)) cs.length (iJ cs):=⟨rfl,rfl,λk i h=>QP (by rewrite [QX];exact h),λk i h=>by
 refine (?_:j0 _ _ _ _=_);unfold j0 iJ;rw [QX,QR h,idx_eq,idx_eq,RJ];have hk:=(Td h.2.1).mpr (RO cs.length 13▸h.2.2);refine aa (T7 hk) ?_;rfl⟩
end
section
variable{B:Bs}{F:Fx}{n m:Nat}{Q:W->HP->Prop}{Z X:QI->QI->HP->Prop}{p:HP}{t:Int}{K:Kw}(hB:aJ B)
noncomputable def oF:QI:=.tuple [.int 0,.tuple []]
noncomputable def vv(A:Ro)(ps vs bs:List W)(o2 o6 o7 o8 o9:Option af):List (Option af):=[some (.obj "TypeDef" A),some (.lst ps),o2,some (.lst []),some (.lst vs),some (.lst bs),o6,o7,o8,o9]
noncomputable def g6(a:Int):Ro:=[("self",.f 13 0),("asm",.d (.int a))]
noncomputable def pg(t:Int)(nm:QI)(so:Int):Ro:=[("tid",.d (.int t)),("name",.d nm),("sort",.d (.int so)),("flags",.d (.int 0)),("base",.d (.int (-1))),("ifaces",.f 16 0),("params",.f 14 0),("variances",.f 17 0),("bounds",.f 18 0)]
noncomputable def vw(a:Int):Ro:=[("fields",.f 15 0),("methods",.f 19 0),("asm",.d (.int a)),("cctor",.d (.int 0)),("under",.d (.int (-1))),("impls",.f 20 0),("props",.f 21 0),("events",.f 22 0),("finaliser",.d (.int 0)),("home",.d (.int 0))]
noncomputable def rW(k:Nat)(d:QI):List W:=Q4 k (.d d)
noncomputable def lh(t:Int)(nm:QI)(so:Int)(d:List QI):List (Option af):=vv (pg t nm so) (dW d) (rW d.length (.int 0)) (rW d.length oF) none none none none none
theorem Aa{k:Nat}{d:QI}:rW k d++[.d d]=rW (k+1) d:=XK.symm
theorem F8{nm:QI}{so a:Int}{d:List QI}{x:QI}(hl:d.length<=2)(k:∀ρ,bz (g6 a) ρ->K.ay ρ ⟨bR p (lh t nm so (d++[x])),[]⟩):aD (Ss.bd 9 q6.body) (aL B n (g6 a++[("word",W.d x)]) X) ⟨bR p (lh t nm so d),[]⟩ K:=by
 have h2:d.length<ah:=QO hl (by decide+kernel);have hr:∀d',(rW d.length d').length<ah:=λd'=>by unfold rW;refine aa TP ?_;exact h2
 have k:=k (g6 a++[("word",W.d x)]) ⟨rfl,rfl,trivial⟩
 have e:lh t nm so (d++[x])=vv (pg t nm so) (dW d++[.d x]) (rW d.length (.int 0)++[.d (.int 0)]) (rW d.length oF++[.d oF]) none none none none none:=by
  unfold lh;refine aa Q2 (aa gb (aa Aa (aa Aa ?_)));rfl
 rw [e] at k
 exact step (yD 1 rfl rfl rfl rfl rfl (λQ q=>q) (by refine aa cp ?_;exact h2) rfl
  (step (yD 4 rfl rfl rfl rfl rfl (λQ q=>q) (hr _) rfl
  (step (yD 5 rfl rfl rfl rfl rfl (λQ q=>q) (hr _) rfl k)))))
theorem F6{nm:QI}{so a:Int}{P:Hs->Prop}(hP:∀h,P h):∀(l d:List QI) ρ,bz (g6 a) ρ->d.length+l.length<=2->K.ay (g6 a) ⟨bR p (lh t nm so (d++l)),[]⟩->bI P (gY ["word"]) (bS (aD (Ss.bd 9 q6.body)) (eQ B n X)) K (dW l) ρ ⟨bR p (lh t nm so d),[]⟩:=by
 intro l
 induction l with
 |nil=>exact λd ρ s hl k=>⟨hP _,g6 a,s,(SI d▸k:)⟩
 |cons x l ih=>
  intro d ρ s hl k;exact ⟨hP _,g6 a,s,F8 (QN (Ra ..) hl) λρ s=>ih (d++[x]) ρ s (by(refine aa Q2 ?_;rewrite [SO]);exact (RO 1 l.length).symm▸hl) (by rewrite [Sh];exact k)⟩
end
section
variable{B:Bs}{F:Fx}{n m:Nat}{Q:W->HP->Prop}{Z X:QI->QI->HP->Prop}{p:HP}{t:Int}{K:Kw}{nm:QI}{so a:Int}(hB:aJ B)
noncomputable def zv(t:Int)(nm:QI)(so a:Int)(ps:List QI):Ro:=[("self",.f 13 0),("tid",.d (.int t)),("name",.d nm),("sort",.d (.int so)),("flags",.d (.int 0)),("base",.d (.int (-1))),("params",.d (.tuple ps)),("asm",.d (.int a))]
noncomputable def Ga:List (Option af):=some (.obj "TypeDef" [])::Q4 9 none
noncomputable def zw(t:Int)(nm:QI)(so a:Int)(d:List QI):List (Option af):=vv (pg t nm so++vw a) (dW d) (rW d.length (.int 0)) (rW d.length oF) (some (.lst [])) (some (.lst [])) (some (.lst [])) (some (.lst [])) (some (.lst []))
theorem F5{d:List QI}(k:K.ay (g6 a) ⟨bR p (zw t nm so a d),[]⟩):aD (Ss.dr 10 q6.body) (aL B n (g6 a) X) ⟨bR p (lh t nm so d),[]⟩ K:=
 (step (ju 1 rfl rfl rfl rfl
  (step (ju 5 rfl rfl rfl rfl
  (step (dX rfl (λQ q=>q) rfl rfl rfl
  (step (dX rfl (λQ q=>q) rfl rfl rfl
  (step (dX rfl (λQ q=>q) rfl rfl rfl
  (step (ju 6 rfl rfl rfl rfl
  (step (ju 7 rfl rfl rfl rfl
  (step (ju 8 rfl rfl rfl rfl
  (step (dX rfl (λQ q=>q) rfl rfl rfl
  (step (dX rfl (λQ q=>q) rfl rfl rfl
  k))))))))))))))))))))
theorem F7{ps:List QI}(hl:ps.length<=2)(k:K.ay (g6 a) ⟨bR p (zw t nm so a ps),[]⟩):aD q6.body (aL B n (zv t nm so a ps) X) ⟨bR p Ga,[]⟩ K:=
 (step (dX rfl (λQ q=>q) rfl rfl rfl
  (step (dX rfl (λQ q=>q) rfl rfl rfl
  (step (dX rfl (λQ q=>q) rfl rfl rfl
  (step (dX rfl (λQ q=>q) rfl rfl rfl
  (step (dX rfl (λQ q=>q) rfl rfl rfl
  (step (ju 2 rfl rfl rfl rfl
  (step (ju 0 rfl rfl rfl rfl
  (step (ju 3 rfl rfl rfl rfl
  (step (ju 4 rfl rfl rfl rfl
  (step (xN rfl (λQ q=>q) rfl (F6 (λ_=>rfl) ps [] (zv t nm so a ps) ⟨rfl,rfl,trivial⟩ ((Sv _).symm▸hl) (F5 k))))))))))))))))))))))
end
section
variable{B:Bs}{F:Fx}{n m:Nat}{Q:W->HP->Prop}{Z X:QI->QI->HP->Prop}{p:HP}{t i kd:Int}{K:Kw}{nm:QI}{so a:Int}(hB:aJ B)
noncomputable def pf(t:Int)(nm:QI)(so a:Int)(d:List QI):List af:=[.obj "TypeDef" (pg t nm so++vw a),.lst (dW d),.lst [],.lst [],.lst (rW d.length (.int 0)),.lst (rW d.length oF),.lst [],.lst [],.lst [],.lst []]
noncomputable def xV(i t:Int)(nm:QI)(kd:Int):Ro:=[("fid",.d (.int i)),("owner",.d (.int t)),("name",.d nm),("kind",.d (.int kd)),("access",.d (.int 6)),("flags",.d (.int 0)),("value",.d .none)]
noncomputable def CS(i t:Int)(nm:QI)(kd:Int):Ro:=[("self",.f 13 0),("fid",.d (.int i)),("owner",.d (.int t)),("name",.d nm),("kind",.d (.int kd)),("access",.d (.int 6)),("flags",.d (.int 0))]
theorem Mz(k:K.ay (CS i t nm kd) ⟨bR p [some (.obj "FieldDef" (xV i t nm kd))],[]⟩):aD DV.body (aL B n (CS i t nm kd) X) ⟨bR p [some (.obj "FieldDef" [])],[]⟩ K:=
 (step (dX rfl (λQ q=>q) rfl rfl rfl
  (step (dX rfl (λQ q=>q) rfl rfl rfl
  (step (dX rfl (λQ q=>q) rfl rfl rfl
  (step (dX rfl (λQ q=>q) rfl rfl rfl
  (step (dX rfl (λQ q=>q) rfl rfl rfl
  (step (dX rfl (λQ q=>q) rfl rfl rfl
  (step (dX rfl (λQ q=>q) rfl rfl rfl
  k))))))))))))))
include hB
theorem DK{k j m:Nat}{f i:String}{gn:Fn}{ws:List W}{cs:List af}{a:Nat}(ec:aV qW k=some (f,i))(ei:f++"."++"__init__"=i)(ex:aV l8 j=some (i,gn))(ln:(W.f 13 0::ws).length=gn.params.length)(hm:cs.length=m+1)(t0:t≠0)(fr:∀k i,cD (m+1) k i\/dC a (m+1) t k i->p.f k i=none)
  (h:∀K:Kw,(∀ρ,K.ay ρ ⟨bR p (cs.map some),[]⟩)->aD gn.body (aL B n (mI gn.params (.f 13 0::ws)) λ_ _ _=>False) ⟨bR p (some (.obj f [])::Q4 m none),[]⟩ K) (q:Q (.f a t) (lz p a (m+1) t (iJ cs))):aq B (n+2) f ws p Q Z:=(hB.c k _ _ ec).elim λD hC=>by
 have fr1:=λk i z=>fr k i (.inl z);refine aq.lA t0 fr (Tw m) (.cls hC ei (hB.x j _ _ ex) (.f 13 0) rfl (fr1 13 0 ⟨rfl,Rl _,Sy (Tw m)⟩) (.df hB j ex ln ?_)) q;have e:(⟨p,[]⟩:Hs).new (.f 13 0) (.obj f [])=_:=I6 fr1;refine aa e ?_;exact h _ λ_=>⟨rfl,rfl,hm▸I5⟩
theorem Fa{d:List QI}(hd:d.length<=2)(t0:t≠0)(fr:∀k i,cD 10 k i\/dC 0 10 t k i->p.f k i=none)(q:Q (.f 0 t) (lz p 0 10 t (iJ (pf t nm so a d)))):aq B (n+2) "TypeDef" [.d (.int t),.d nm,.d (.int so),.d (.int 0),.d (.int (-1)),.d (.tuple d),.d (.int a)] p Q Z:=DK (k:=4) (j:=29) hB rfl (by rfl) rfl rfl rfl t0 fr (λK k=>F7 hd (k _)) q
theorem Mv(t0:i≠0)(fr:∀k j,cD 1 k j\/dC 10 1 i k j->p.f k j=none)(q:Q (.f 10 i) (lz p 10 1 i (iJ [.obj "FieldDef" (xV i t nm kd)]))):aq B (n+2) "FieldDef" [.d (.int i),.d (.int t),.d nm,.d (.int kd),.d (.int 6),.d (.int 0)] p Q Z:=DK (k:=5) (j:=30) hB rfl (by rfl) rfl rfl rfl t0 fr (λK k=>Mz (k _)) q
end
section
variable{B:Bs}{F:Fx}{A:Ab}{n m:Nat}{p:HP}{t i:Int}{T D:Int->Prop}{L:Int->List W}
noncomputable def lg(F:Fx)(L:Int->List W)(i:Int):List af:=[.obj "TypeDef" (fU F i),.lst (dW ([sS "T",sS "U"].take (F.ti i).count)),.lst (L i),.lst [],.lst (rW (F.ti i).count (.int 0)),.lst (rW (F.ti i).count oF),.lst [],.lst [],.lst [],.lst []]
def bg(F:Fx)(T:Int->Prop)(L:Int->List W)(D:Int->Prop)(k:Nat)(i:Int):Option af:=if k<10/\T i then aV (lg F L i) k else if k=10/\D i then some (.obj "FieldDef" (l9 F i)) else none
def Qu(P:Nat->Prop)(a n:Nat):Prop:=n.rec True λn r=>r/\P (a+n)
theorem yI{P:Nat->Prop}{a n:Nat}(h:Qu P a n):∀k,a<=k->k<a+n->P k:=by
 induction n with
 |zero=>exact λk h1 h2=>absurd h2 (Nat.not_lt.mpr h1)
 |succ n ih=>exact λk h1 h2=>(Nat.lt_or_ge k (a+n)).elim (ih h.1 k h1) λg=>(VQ (TZ h2) g)▸h.2
theorem Hm{d:List QI}{a m:Nat}:(dW d).map (sw a m t)=dW d:=Ui
theorem Hl{k a m:Nat}{d:QI}:(rW k d).map (sw a m t)=rW k d:=List.map_replicate
theorem CU{T':Int->Prop}{L':Int->List W}{k:Nat}(h:¬(k<10/\T i))(h':¬(k<10/\T' i)):bg F T L D k i=bg F T' L' D k i:=by
 unfold bg;exact aa (QP h) (aa (QP h') rfl)
theorem MF(hc2:(F.ti t).count<=2)(hT:¬T t){so a:Int}{nm:QI}(e1:(F.ti t).aQ=a)(e2:Yj (F.ti t).name=nm)(e3:(if(F.ti t).struct=0 then 1 else 2)=so)(hp:p.f=bg F T L D)(hL:L t=[]):
  (λj m=>if j=0/\m=t then some (.obj "TypeDef" (fU F t)) else pJ p 0 10 t (iJ (pf t nm so a ([sS "T",sS "U"].take (F.ti t).count))) j m)=bg F (λi=>T i\/i=t) L D:=by
 funext k i
 unfold pJ;refine aa hp ?_;by_cases e:i=t
 ·subst e
  by_cases k0:k=0
  ·subst k0
   refine aa (QR ⟨rfl,rfl⟩) ?_;exact (QR ⟨by decide,.inr rfl⟩:bg F (λj=>T j\/j=i) L D 0 i=_).symm
  ·refine aa (QP λz=>k0 z.1) ?_
   by_cases h:k<10
   ·refine aa (QR ⟨rfl,Rr _,by rw [Sv];exact h⟩) ?_
    refine Wl ?_ (QR ⟨h,.inr rfl⟩:bg F (λj=>T j\/j=i) L D k i=_).symm;refine yI (P:=λk=>some ((iJ (pf i nm so a ([sS "T",sS "U"].take (F.ti i).count)) (k -0)).lA (sw 0 10 i))=aV (lg F L i) k) (n:=9) ?_ k (Nat.pos_of_ne_zero k0) h;have hl:([sS "T",sS "U"].take (F.ti i).count).length=(F.ti i).count:=by refine aa Vy ?_;exact ZK hc2
    have r:∀{d},(rW ([sS "T",sS "U"].take (F.ti i).count).length d).map (sw 0 10 i)=rW (F.ti i).count d:=λ{d}=>Hl.trans (QQ (rW · d) hl);have c:∀{l l':List W},l=l'->some (af.lst l)=some (.lst l'):=λe=>QQ (λl=>some (af.lst l)) e;exact ⟨⟨⟨⟨⟨⟨⟨⟨⟨trivial,c Hm⟩,c hL.symm⟩,rfl⟩,c r⟩,c r⟩,rfl⟩,rfl⟩,rfl⟩,rfl⟩
   ·refine aa (QP λz=>h (by have:=z.2.2;rwa [Sv] at this)) ?_
    exact CU (λz=>h z.1) λz=>h z.1
 ·refine aa (QP λz=>e z.2) (aa (QP λz=>e z.1) ?_)
  by_cases h:k<10/\T i
  ·exact (QR h).trans (QR ⟨h.1,.inl h.2⟩:bg F (λi=>T i\/i=t) L D k i=_).symm
  ·exact CU h λz=>h ⟨z.1,z.2.resolve_right e⟩
theorem MJ{fd:af}(hD:¬D i)(e:fd=.obj "FieldDef" (l9 F i))(hp:p.f=bg F T L D):pJ p 10 1 i (iJ [fd])=bg F T L λj=>D j\/j=i:=by
 funext k j
 unfold pJ;refine aa hp ?_;by_cases h:dC 10 1 i k j
 ·have hk:=VQ (TZ h.2.2) h.2.1
  have hj:=h.1;subst hk hj;refine aa (QR h) (aa e ?_);exact ((QP λz=>absurd z.1 (by decide)).trans (QR ⟨rfl,.inr rfl⟩):bg F T L (λi=>D i\/i=j) 10 j=_).symm
 ·refine aa (QP h) ?_
  unfold bg;by_cases a:k<10/\T j
  ·exact aa (QR a) (aa (QR a) rfl)
  ·refine aa (QP a) (aa (QP a) ?_)
   by_cases c:k=10/\D j
   ·exact aa (QR c) (aa (QR ⟨c.1,.inl c.2⟩) rfl)
   ·exact aa (QP c) (aa (QP λz=>z.2.elim (λd=>c ⟨z.1,d⟩) λd=>h ⟨d,R4 z.1.symm,Y1 (R4 z.1)⟩) rfl)
noncomputable def kL(L:Int->List W)(t:Int)(l:List W)(i:Int):List W:=if i=t then l else L i
theorem MH(hT:T t){l:List W}:(λj m=>if j=2/\m=t then some (.lst l) else bg F T L D j m)=bg F T (kL L t l) D:=by
 funext k i
 by_cases e:k=2/\i=t
 ·obtain ⟨rfl,rfl⟩:=e
  refine aa (QR ⟨rfl,rfl⟩) ?_;refine Wl ?_ (QR ⟨by decide,hT⟩:bg F T (kL L i l) D 2 i=_).symm;refine (?_:some (af.lst l)=some (.lst (kL L i l i)));exact aa (show kL L i l i=l from QR rfl) rfl
 ·refine aa (QP e) ?_
  unfold bg;by_cases a:k<10/\T i
  ·refine aa (QR a) (aa (QR a) ?_)
   by_cases c:i=t
   ·have k2:=λz=>e ⟨z,c⟩
    refine yI (P:=λk=>k≠2->aV (lg F L i) k=aV (lg F (kL L t l) i) k) (n:=10) ?_ k (Rr _) a.1 k2;exact ⟨⟨⟨⟨⟨⟨⟨⟨⟨⟨trivial,λ_=>rfl⟩,λ_=>rfl⟩,λz=>absurd rfl z⟩,λ_=>rfl⟩,λ_=>rfl⟩,λ_=>rfl⟩,λ_=>rfl⟩,λ_=>rfl⟩,λ_=>rfl⟩,λ_=>rfl⟩
   ·have e:L i=kL L t l i:=(QP c).symm
    unfold lg;exact aa e rfl
  ·exact aa (QP a) (aa (QP a) rfl)
theorem MD(hA:A.tabs=[])(hT:∀i,T i↔40<=i/\i<=50)(hD:∀i,D i↔1<=i/\i<=22)(hL:∀i,40<=i/\i<=50->L i=[.d (.int (2*(i -40)+1)),.d (.int (2*(i -40)+2))]):bg F T L D=d9 F A:=by
 funext k i
 have g:∀{k:Nat}{c:af},k<10->aV (lg F L i) k=some c->d9 F A k i=aR (cz i) (some c)->bg F T L D k i=d9 F A k i:=λ{k c} h e1 e2=>by
  unfold bg;refine aa e2 ?_;by_cases a:40<=i/\i<=50
  ·refine aa (QR ⟨h,(hT i).mpr a⟩) (aa (qF a) (aa e1 ?_));rfl
  ·refine aa (QP λz=>a ((hT i).mp z.2)) (aa (QP λz=>absurd h (by rw [z.1];decide)) ?_)
   have:cz i=false:=by unfold cz;(rewrite [←UW];refine aa (Rm a) ?_;rfl)
   refine aa this ?_;rfl
 by_cases h:k<10
 ·by_cases k2:k=2
  ·subst k2
   by_cases a:40<=i/\i<=50
   ·exact g h rfl (by refine aa (hL i a) ?_;rfl)
   ·unfold bg
    refine aa (QP λz=>a ((hT i).mp z.2)) (aa (QP λz=>absurd z.1 (by decide)) ?_);have:cz i=false:=by unfold cz;(rewrite [←UW];refine aa (Rm a) ?_;rfl)
    refine (?_:none=aR (cz i) _);refine aa this ?_;rfl
  ·refine yI (P:=λk=>k≠2->bg F T L D k i=d9 F A k i) (n:=10) ?_ k (Rr _) h k2
   exact ⟨⟨⟨⟨⟨⟨⟨⟨⟨⟨trivial,λ_=>g (by decide) rfl rfl⟩,λ_=>g (by decide) rfl rfl⟩,λz=>absurd rfl z⟩,λ_=>g (by decide) rfl rfl⟩,λ_=>g (by decide) rfl rfl⟩,λ_=>g (by decide) rfl rfl⟩,λ_=>g (by decide) rfl rfl⟩,λ_=>g (by decide) rfl rfl⟩,λ_=>g (by decide) rfl rfl⟩,λ_=>g (by decide) rfl rfl⟩
 ·unfold bg
  refine aa (QP λz=>h z.1) ?_;by_cases e:k=10
  ·subst e
   refine (?_:_=aR (kq i) _);by_cases a:1<=i/\i<=22
   ·refine aa (QR ⟨rfl,(hD i).mpr a⟩) ?_
    have:kq i=true:=by unfold kq;(rewrite [←UW];refine aa (Rc a) ?_;rfl)
    refine aa this ?_;rfl
   ·refine aa (QP λz=>a ((hD i).mp z.2)) ?_
    have:kq i=false:=by unfold kq;(rewrite [←UW];refine aa (Rm a) ?_;rfl)
    refine aa this ?_;rfl
  ·refine aa (QP λz=>e z.1) ?_
   obtain ⟨j,rfl⟩:=Nat.le.dest (Wn (Zp h) (UG e));rewrite [RO]
   cases j with
   |zero=>show none=rR A i;unfold rR;exact aa hA (aa (QP λz=>nomatch z) rfl)
   |succ j=>rfl
end
section
variable{B:Bs}{F:Fx}{n m j:Nat}{Q:W->HP->Prop}{Z:QI->QI->HP->Prop}{K:Kw}{p:HP}{t i:Int}{T D:Int->Prop}{L:Int->List W}{f8 ty fl as:List W}{nm:List (QI×W)}{f:Nat->Int->Option af}{ks:List X}(hB:aJ B)
noncomputable def zB(F:Fx)(f8 ty fl:List W)(nm:List (QI×W))(as:List W):List (Option af):=some (.lst f8)::some (.lst [])::some (.lst [])::some (.lst [])::some (.lst [])::some (.lst [])::some (.lst [])::some (vC 16)::some (.lst ty)::some (.lst fl)::n1::some (.aj 3 nm)::some (.lst as)::(Q4 23 none++[some (.lst (iW F.ns)),n1])
def sH(F:Fx)(ks:List X)(f8 ty fl:List W)(nm:List (QI×W))(as:List W)(f:Nat->Int->Option af):HP:=kH F ks (o3 bA) (zB F f8 ty fl nm as) f
noncomputable def cR:Ro:=[("w",.s 6),("nums",.s 44),("store",.s 15)]
noncomputable def vh(F:Fx)(t:Int):Ro:=cR++[("tid",.d (.int t)),("asm",.d (.int (F.ti t).aQ)),("name",.d (.str (F.ti t).name)),("count",.d (.int (F.ti t).count)),("struct",.d (.int (F.ti t).struct)),("home",.d (.int (F.ti t).bB))]
def pZ(F:Fx)(nm:List (QI×W))(t:Int):List (QI×W):=if(a5 nm (F.ti t).key).isSome then nm else nm++[((F.ti t).key,.d (.int t))]
theorem Lj(fk:aE F)(h:40<=t/\t<=50):aP (F.ti t).key=true:=(Tr.tup (l:=[.int (F.ti t).aQ,.str (F.ti t).name,.int (F.ti t).count]) (λy m=>by
  rcases QZ.mp m with rfl|m
  ·exact Tr.int _
  rcases QZ.mp m with rfl|m
  ·exact Tr.str (by rcases fk.name t h with e|e|e<;>refine aa e ?_<;>decide+kernel)
  ·exact QW.mp m▸Tr.int _) (by decide:3<=1000)).ok (by decide)
theorem Fc(fk:aE F)(hj:40<=j/\j<=50)(hty:ty.length=51)(hn:nm.length<20)(k:∀ρ,bz cR ρ->K.ay ρ ⟨sH F ks f8 (upd ty j (.f 0 j)) fl (pZ F nm j) as f,[]⟩):aD (Ss.dr 3 (Ss.bd 3 d7.body)) (aL B n (vh F j++[("t",W.f 0 j)]) Z) ⟨sH F ks f8 ty fl nm as f,[]⟩ K:=by
 have h5:40<=(j:Int)/\(j:Int)<=50:=⟨RZ.mpr hj.1,RZ.mpr hj.2⟩;refine Gd.of (by refine aa hty (aa (Tg.mpr (QO hj.2 (by decide+kernel))) (aa (Tg.mpr (Y1 hj.2)) ?_));rfl) ?_;refine Gd.ok (Lj fk h5) (Gd.lim (Rt hn (by decide+kernel)) ?_);have k:=k (vh F j++[("t",W.f 0 j)]) ⟨rfl,rfl,rfl,trivial⟩;unfold pZ at k
 cases e:a5 nm (F.ti j).key with
 |none=>rw [e] at k;exact Oc.no e k
 |some w=>rw [e] at k;exact Oc.yes e k
end
section
variable{B:Bs}{F:Fx}{n m j:Nat}{Q:W->HP->Prop}{Z:QI->QI->HP->Prop}{K:Kw}{p:HP}{t i:Int}{T D:Int->Prop}{L:Int->List W}{f8 ty fl as:List W}{nm:List (QI×W)}{f:Nat->Int->Option af}{ks:List X}(hB:aJ B)
theorem mh{k:Nat}{i:Int}(h:¬(k<10/\T i))(h':¬(k=10/\D i)):bg F T L D k i=none:=(QP h).trans (QP h')
noncomputable def F9(t:Int)(nm:QI)(so a:Int):Ro:=(pg t nm so++vw a).map λp:String×W=>(p.1,sw 0 10 t p.2)
theorem Hn{nm:QI}{so a:Int}{d:List QI}{tl:List af}:Hs.get ⟨lz p 0 10 t (iJ (pf t nm so a d)),tl⟩ (.f 0 t)=some (.obj "TypeDef" (F9 t nm so a)):=QR ⟨rfl,Rl _,by decide⟩
include hB
theorem Fd(fk:aE F)(hj:40<=j/\j<=50)(hty:ty.length=51)(hn:nm.length<20)(hT:¬T (j:Int))(k:∀ρ,bz cR ρ->K.ay ρ ⟨sH F ks f8 (upd ty j (.f 0 (j:Int))) fl (pZ F nm (j:Int)) as (bg F (λi=>T i\/i=(j:Int)) (λ_=>[]) D),[]⟩):aD (Ss.bd 3 d7.body) (aL B (n+2) (cR++[("tid",W.d (.int (j:Int)))]) Z) ⟨sH F ks f8 ty fl nm as (bg F T (λ_=>[]) D),[]⟩ K:=by
 have h5:40<=(j:Int)/\(j:Int)<=50:=⟨RZ.mpr hj.1,RZ.mpr hj.2⟩;have t0:(j:Int)≠0:=λz=>absurd (z▸h5.1) (by decide);have tw:=Fc (B:=B) (n:=n+2) (Z:=Z) (K:=K) (ks:=ks) (f8:=f8) (fl:=fl) (as:=as) (f:=bg F (λi=>T i\/i=(j:Int)) (λ_=>[]) D) fk hj hty hn k;have ft:=MF (p:=sH F ks f8 ty fl nm as (bg F T (λ_=>[]) D)) (fk.cnt _ h5) hT rfl rfl rfl rfl rfl;rw [←ft] at tw;have fr:∀k i,cD 10 k i\/dC 0 10 (j:Int) k i->bg F T (λ_=>[]) D k i=none:=λk i z=>z.elim (λz=>mh (λy=>absurd (QO z.2.1 y.1) (by decide)) λy=>absurd z.2.1 (by refine aa y.1 ?_;decide)) λz=>mh (λy=>hT (z.1▸y.2)) λy=>absurd z.2.2 (by refine aa y.1 ?_;decide)
 have rest:aD (Ss.dr 2 (Ss.bd 3 d7.body)) (aL B (n+2) (vh F (j:Int)++[("t",W.f 0 (j:Int))]) Z) ⟨lz (sH F ks f8 ty fl nm as (bg F T (λ_=>[]) D)) 0 10 (j:Int) (iJ (pf (j:Int) (.str (F.ti (j:Int)).name) (if(F.ti (j:Int)).struct=0 then 1 else 2) (F.ti (j:Int)).aQ ([sS "T",sS "U"].take (F.ti (j:Int)).count))),[]⟩ K:=by
  refine Wo.of (x:=.int (40*(F.ti (j:Int)).bB)) (by refine (?_:(aR (bE 40&&bE (F.ti (j:Int)).bB) _).map _=_);rcases fk.bB _ h5 with e|e<;>refine aa e ?_<;>rfl) ?_;refine Wo.of (x:=W.f 0 (j:Int)) rfl (Wo.of (QQ jd Hn) ?_);exact Gd.of rfl tw
 have bD:=λ{Q} q=>Fa (B:=B) (n:=n) (Z:=Z) (Q:=Q) (p:=sH F ks f8 ty fl nm as (bg F T (λ_=>[]) D)) (t:=(j:Int)) (nm:=.str (F.ti (j:Int)).name) (so:=if(F.ti (j:Int)).struct=0 then 1 else 2) (a:=(F.ti (j:Int)).aQ) (d:=[sS "T",sS "U"].take (F.ti (j:Int)).count) hB (QN (VT ..) (fk.cnt _ h5)) t0 fr q;have gd:Uv (F.ti (j:Int)).count 2&&true:=by refine aa (aae.mpr (fk.cnt _ h5)) ?_;rfl
 refine Wo.cI (fz h5) ?_;by_cases e:(F.ti (j:Int)).struct=0
 ·rw [QR e] at rest bD
  exact Br.nn e (Gd.of (by decide+kernel) (Gd.of gd (Gd.of rfl (bD rest))))
 ·rw [QP e] at rest bD
  exact Br.ny e (Gd.of (by decide+kernel) (Gd.of gd (Gd.of rfl (bD rest))))
end
section
variable{B:Bs}{F:Fx}{n m j:Nat}{Q:W->HP->Prop}{Z:QI->QI->HP->Prop}{K:Kw}{p:HP}{t i:Int}{T D:Int->Prop}{L:Int->List W}{f8 ty fl as:List W}{nm:List (QI×W)}{f:Nat->Int->Option af}{ks:List X}{wr:List (QI×W)}{r:List (Option af)}{tl:List af}(hB:aJ B)
noncomputable def cX(j:Nat):List W:=(RP 51).map λk:Nat=>if 40<=k/\k<40+j then W.f 0 k else .d .none
def tJ(j:Nat)(i:Int):Prop:=40<=i/\i<((40+j:Nat):Int)
noncomputable def zr(j:Nat):List Int:=(RP j).map λi:Nat=>((40+i:Nat):Int)
def eX(F:Fx)(j:Nat):List (QI×W):=j4 F (zr j)
theorem E7{α:Type}{g:Nat->α}{N k:Nat}{y:α}:upd ((RP N).map g) k y=(RP N).map λx=>if x=k then y else g x:=by
 refine aa pb ?_;refine List.ext_getElem? λx=>?_;rw [YW,RJ,RJ,QX,Sw];by_cases h:x<N
 ·refine aa (VV h) ?_
  by_cases e:k=x
  ·refine aa (QR e) (aa (QR (e▸h)) ?_);refine (?_:some y=some (if x=k then y else g x));exact aa (QR e.symm) rfl
  ·refine aa (QP e) ?_;refine (?_:some (g x)=some (if x=k then y else g x));exact aa (QP (UG e)) rfl
 ·have e:(RP N)[x]?=none:=SN (by refine aa Sw ?_;exact Zp h)
  refine aa e ?_;by_cases q:k=x
  ·refine aa (QR q) (aa (QP (q▸h)) ?_);rfl
  ·refine aa (QP q) ?_;rfl
theorem Fi:upd (cX j) (40+j) (.f 0 ((40+j:Nat):Int))=cX (j+1):=by
 refine aa E7 ?_;refine RX λk _=>?_;by_cases e:k=40+j
 ·exact aa (QR e) (aa (QR ⟨e▸Ra ..,e▸SU _⟩) (aa e rfl))
 ·refine aa (QP e) ?_
  by_cases h:40<=k/\k<40+j
  ·exact aa (QR h) (aa (QR ⟨h.1,Vk h.2⟩) rfl)
  ·exact aa (QP h) (aa (QP λz=>h ⟨z.1,Wn (TZ z.2) e⟩) rfl)
theorem Go:(λi=>tJ j i\/i=((40+j:Nat):Int))=tJ (j+1):=by
 funext i
 refine propext ⟨λh=>h.elim (λh=>⟨h.1,Uh h.2 (R5.mpr (SU _))⟩) λh=>h▸⟨RZ.mpr (Ra ..),R5.mpr (SU _)⟩,λh=>?_⟩;exact (Uo (Sj h.2)).imp (λq=>⟨h.1,q⟩) id
theorem AP:pZ F (eX F j) ((40+j:Nat):Int)=eX F (j+1):=by
 unfold eX j4 zr;refine aa UZ (aa Rq (aa List.foldl_append ?_));rfl
theorem AQ:∀j,(eX F j).length<=j
 |0=>Rl _
 |j+1=>by
  have:=AQ j;refine a9 AP ?_;unfold pZ;by_cases e:(a5 (eX F j) (F.ti ((40+j:Nat):Int)).key).isSome=true
  ·refine aa (QR e) ?_;exact RQ this
  ·refine aa (QP e) (aa Q2 ?_);exact QU this
theorem nL:cc ⟨kH F ks wr r f,tl⟩ (.s 7)=some (2,(RP 11).map λk:Nat=>W.d (.int ((40+k:Nat):Int))):=by
 have l:(iZ F).length=11:=rfl;refine aa l (aa (Tg.mpr (by decide+kernel:11<ah)) ?_);rfl
include hB
theorem E9(fk:aE F)(k:K.ay cR ⟨sH F ks f8 (cX 11) fl (eX F 11) as (bg F (tJ 11) (λ_=>[]) D),[]⟩):bI (lF (.s 7) (2,(RP 11).map λk:Nat=>W.d (.int ((40+k:Nat):Int)))) (gY ["tid"]) (bS (aD (Ss.bd 3 d7.body)) (eQ B (n+2) Z)) K ((RP 11).map λk:Nat=>W.d (.int ((40+k:Nat):Int))) cR ⟨sH F ks f8 (cX 0) fl [] as (bg F (tJ 0) (λ_=>[]) D),[]⟩:=by
 refine si (λj ρ h=>bz cR ρ/\h=⟨sH F ks f8 (cX j) fl (eX F j) as (bg F (tJ j) (λ_=>[]) D),[]⟩) (λρ h i=>?_) (λj hj ρ h M ih i=>?_) ⟨⟨rfl,rfl,rfl,trivial⟩,rfl⟩
 ·obtain ⟨s,rfl⟩:=i
  exact ⟨nL,_,s,k⟩
 ·obtain ⟨s,rfl⟩:=i
  refine ⟨nL,cR,s,?_⟩;have h:=Fd (n:=n) (Z:=Z) (K:=⟨M,K.ret,M⟩) (T:=tJ j) (ty:=cX j) hB fk ⟨Ra ..,Rj (TZ hj) 40⟩ (by unfold cX;(rewrite [QX];refine aa Sw ?_;rfl)) (QO (AQ j) (Rt hj (by decide))) (λz=>aaA _ z.2) λρ s=>ih ρ _ ⟨s,by exact aa Fi (aa AP (aa Go rfl))⟩;exact h
end
section
variable{B:Bs}{F:Fx}{n m j:Nat}{Q:W->HP->Prop}{Z:QI->QI->HP->Prop}{K:Kw}{p:HP}{t i v:Int}{as:List W}{nm:List (QI×W)}{ks:List X}{x:X}(hB:aJ B)
noncomputable def iF(F:Fx)(m:Nat):List W:=.d .none::(RP m).map λi:Nat=>.d (.tuple [.int (dN ((i+1:Nat):Int)),da ((i+1:Nat):Int),(F.fx ((i+1:Nat):Int)).d])
noncomputable def gR(m:Nat):List W:=.d .none::(RP m).map λi:Nat=>.f 10 ((i+1:Nat):Int)
def dM(m:Nat)(i:Int):Prop:=1<=i/\i<=m
noncomputable def lM(m:Nat)(i:Int):List W:=(if 2*(i -40)+1<=m then [W.d (.int (2*(i -40)+1))] else [])++if 2*(i -40)+2<=m then [W.d (.int (2*(i -40)+2))] else []
def fH(F:Fx)(ks:List X)(m:Nat)(nm:List (QI×W))(as:List W):HP:=sH F ks (iF F m) (cX 11) (gR m) nm as (bg F (tJ 11) (lM m) (dM m))
theorem M0:iF F m++[.d (.tuple [.int (dN ((m+1:Nat):Int)),da ((m+1:Nat):Int),(F.fx ((m+1:Nat):Int)).d])]=iF F (m+1):=by unfold iF;refine aa UZ (aa Rq ?_);rfl
theorem Mr:gR m++[.f 10 ((m+1:Nat):Int)]=gR (m+1):=by unfold gR;refine aa UZ (aa Rq ?_);rfl
theorem xc{α:Type}{g:Nat->α}{x:α}:(x::(RP m).map g).length=m+1:=by(refine aa UH ?_;rewrite [QX];refine aa Sw ?_;rfl)
theorem ND:(λi=>dM m i\/i=((m+1:Nat):Int))=dM (m+1):=by
 funext i
 refine propext ⟨λh=>h.elim (λh=>⟨h.1,Ti h.2 (RZ.mpr (RI m))⟩) λh=>h▸⟨RZ.mpr (QU (Rr m)),WE _⟩,λh=>?_⟩;exact (Uo h.2).imp (λq=>⟨h.1,Sj q⟩) id
def n9(m:Nat)(t:Int):Prop:=((m+1:Nat):Int)=2*(t -40)+1\/((m+1:Nat):Int)=2*(t -40)+2
theorem K9(h:n9 m t):kL (lM m) t (lM m t++[.d (.int ((m+1:Nat):Int))])=lM (m+1):=by
 funext i
 unfold kL;by_cases e:i=t
 ·refine aa (QR e) (aa e ?_)
  unfold lM;rcases h with h|h
  ·refine aa (QP (by lia)) (aa (QP (by lia)) (aa (QR (by lia)) (aa (QP (by lia)) (a9 h ?_))));rfl
  ·refine aa (QR (by lia)) (aa (QP (by lia)) (aa (QR (by lia)) (aa (QR (by lia)) (a9 h ?_))));rfl
 ·refine aa (QP e) ?_
  unfold lM;have a:(2*(i -40)+1<=m)=(2*(i -40)+1<=((m+1:Nat):Int)):=propext (by unfold n9 at h;lia);have c:(2*(i -40)+2<=m)=(2*(i -40)+2<=((m+1:Nat):Int)):=propext (by unfold n9 at h;lia);simp only [a,c]
theorem Fj(h:40<=t/\t<=50){Q:W->Prop}(q:Q (.f 0 t)):Wo (bZ (cX 11) t) Q:=by
 obtain ⟨k,rfl⟩:=Ue h.1;have hk:40+k<51:=R5.mp (show((40+k:Nat):Int)<(51:Nat) from SE h.2 (by decide));refine Wo.at (at_of (Rt hk (by decide+kernel)) ?_) q;refine aa (RJ) (aa (VV hk) ?_);exact QQ some (QR ⟨Ra ..,hk⟩)
theorem rS:tJ 11 t↔40<=t/\t<=50:=⟨λh=>⟨h.1,Sj h.2⟩,λh=>⟨h.1,XJ h.2⟩⟩
end
section
variable{B:Bs}{F:Fx}{n m j:Nat}{Q:W->HP->Prop}{Z:QI->QI->HP->Prop}{K:Kw}{p:HP}{t i v:Int}{as f8:List W}{nm:List (QI×W)}{ks:List X}{x:X}(hB:aJ B)
noncomputable def xS(t v:Int)(wd:QI):Ro:=[("w",.s 6),("nums",.s 44),("store",.s 15),("tid",.d (.int t)),("n",.d (.int v)),("word",.d wd)]
noncomputable def Cw(t v:Int)(wd:QI)(f:Int)(x:X):Ro:=xS t v wd++[("fid",.d (.int f)),("x",.d x.d)]
noncomputable def xU:Ss:=Ss.bd 1 (Ss.bd 4 d7.body)
theorem Mo{wd:QI}{D:Int->Prop}(ht:40<=t/\t<=50)(hf:n9 m t)(hm:m<22){fl:List W}(k:∀ρ,bz [("w",.s 6),("nums",.s 44),("store",.s 15),("tid",.d (.int t)),("n",.d (.int (v.fdiv 12+5)))] ρ->K.ay ρ ⟨sH F ks f8 (cX 11) fl nm as (bg F (tJ 11) (lM (m+1)) D),[]⟩):
  aD (Ss.dr 4 xU) (aL B n (Cw t v wd ((m+1:Nat):Int) x) Z) ⟨sH F ks f8 (cX 11) fl nm as (bg F (tJ 11) (lM m) D),[]⟩ K:=by
 have e0:bg F (tJ 11) (lM m) D 0 t=some (.obj "TypeDef" (fU F t)):=QR ⟨by decide,rS.mpr ht⟩;have e2:Hs.get ⟨sH F ks f8 (cX 11) fl nm as (bg F (tJ 11) (lM m) D),[]⟩ (.f 2 t)=some (.lst (lM m t)):=QR ⟨by decide,rS.mpr ht⟩
 have ll:(lM m t).length<ah:=by
  have g:∀{P:Prop}[Decidable P]{w:W},(if P then [w] else []).length<=1:=λ{P _ w}=>by
   by_cases h:P
   ·refine aa (QR h) ?_;exact Rl _
   ·refine aa (QP h) ?_;exact Rr _
  have:(lM m t).length<=2:=by
   refine aa Q2 ?_;exact TH g g
  exact QO this (by decide+kernel)
 have k:=k (xS t (v.fdiv 12+5) wd++[("fid",.d (.int ((m+1:Nat):Int))),("x",.d x.d)]) ⟨rfl,rfl,rfl,rfl,rfl,trivial⟩;rw [←K9 hf,←MH (rS.mpr ht)] at k;refine Fj ht ?_;refine Wo.aF e0 rfl ?_;refine iO.app e2 (Gd.of rfl ?_);refine Wo.lst e2 (Gd.lim ll (Gd.of rfl ?_));exact k
end
section
variable{B:Bs}{F:Fx}{n m j:Nat}{Q:W->HP->Prop}{Z:QI->QI->HP->Prop}{K:Kw}{p:HP}{t i v:Int}{as f8:List W}{nm:List (QI×W)}{ks:List X}{x:X}(hB:aJ B)
theorem JH i:TU (cC i)=true:=by unfold cC;by_cases h:i%2=1<;>simp only [h,if_true,if_false]<;>decide+kernel
include hB
theorem Mp(ht:40<=t/\t<=50)(hf:n9 m t)(hm:m<22)(sx:Sm F 11 14 x)(KK:a6 ks)(hk:ks.length<=400)(ex:F.fx ((m+1:Nat):Int)=x)(ek:F.fk ((m+1:Nat):Int)=aw (bC ks x) x)
  (k:∀ρ,bz [("w",.s 6),("nums",.s 44),("store",.s 15),("tid",.d (.int t)),("n",.d (.int (v.fdiv 12+5)))] ρ->K.ay ρ ⟨fH F (bC ks x) (m+1) nm as,[]⟩):
  aD (Ss.dr 2 xU) (aL B (n+30) (Cw t v (da ((m+1:Nat):Int)) ((m+1:Nat):Int) x) Z) ⟨fH F ks m nm as,[]⟩ K:=by
 have ow:dN ((m+1:Nat):Int)=t:=sC hf;have t0:=λz=>Zo m (T6 z);have hD:¬dM m ((m+1:Nat):Int):=λz=>absurd (RZ.mp z.2) (UB m)
 have ok:=(Tr.tup (n:=29) (l:=[.int t,da ((m+1:Nat):Int),x.d]) (λy q=>by
  rcases QZ.mp q with rfl|q
  ·exact (Tr.int _).more (Rr _)
  rcases QZ.mp q with rfl|q
  ·exact s7▸(Tr.str (JH _)).more (Rr _)
  ·exact QW.mp q▸sx.tr (by decide)) (by decide:3<=1000)).ok (by decide)
 have l1:(iF F m).length<ah:=xc▸Rt (UI hm) (by decide+kernel);have l2:(gR m).length<ah:=xc▸Rt (UI hm) (by decide+kernel);have tl:=Mo (B:=B) (n:=n+30) (Z:=Z) (x:=x) (wd:=da ((m+1:Nat):Int)) ht hf hm k;rw [←ND,←MJ (fd:=.obj "FieldDef" (xV ((m+1:Nat):Int) t (da ((m+1:Nat):Int)) (aw (bC ks x) x:Nat))) (p:=sH F (bC ks x) (iF F (m+1)) (cX 11) (gR m) nm as (bg F (tJ 11) (lM m) (dM m))) hD (by refine a9 ek (a9 ow ?_);rfl) rfl,←M0,←Mr,ow,ex] at tl;have fr:∀k j,cD 1 k j\/dC 10 1 ((m+1:Nat):Int) k j->bg F (tJ 11) (lM m) (dM m) k j=none:=λk j z=>z.elim (λz=>mh (λy=>absurd (QO z.2.1 y.1) (by decide)) λy=>absurd z.2.1 (by refine aa y.1 ?_;decide)) λz=>mh (λy=>absurd (QO z.2.1 y.1) (by decide)) λy=>hD (z.1▸y.2);have hht:x.ht<=n+22:=QN (QN x.ky sx.fu) (QN (by decide) (Sd ..));refine Gd.ok ok (Gd.lim l1 ?_);refine Gd.of rfl (BA hB x sx.w (QN (QN x.ky sx.fu) (by decide)) (QN sx.sz (by decide)) hht KK (QO (Ri (TH hk sx.sz) 17) (by decide+kernel)) ?_);refine Gd.of rfl (Mv hB t0 fr ?_);refine Gd.lim l2 ?_;exact tl
end
section
variable{B:Bs}{F G:Fx}{n m j:Nat}{Q:W->HP->Prop}{Z:QI->QI->HP->Prop}{K:Kw}{p:HP}{t i v:Int}{as f8:List W}{nm:List (QI×W)}{ks:List X}{x:X}(hB:aJ B)
noncomputable def fR(F:Fx)(i:Int)(x:X)(k:Nat):Fx:=⟨F.is,F.ns,F.ti,λj=>if j=i then k else F.fk j,λj=>if j=i then x else F.fx j⟩
theorem y0(e:G.ti=F.ti):∀{x:X},Wx F x->Wx G x:=by
 intro x
 induction x with
 |p i=>exact id
 |var i=>exact id
 |arr x ih=>exact ih
 |c0 t=>exact λh=>⟨h.1,by refine aa e ?_;exact h.2⟩
 |c1 t a ih=>exact λh=>⟨h.1,by refine aa e ?_;exact h.2.1,ih h.2.2⟩
 |c2 t a b ih ih'=>exact λh=>⟨h.1,by refine aa e ?_;exact h.2.1,ih h.2.2.1,ih' h.2.2.2⟩
theorem vf{k:Nat}(h:i≠v):(fR F v x k).fx i=F.fx i/\(fR F v x k).fk i=F.fk i:=⟨QP h,QP h⟩
theorem MQ{k:Nat}:fH (fR F ((m+1:Nat):Int) x k) ks m nm as=fH F ks m nm as:=by
 have e1:iF (fR F ((m+1:Nat):Int) x k) m=iF F m:=QQ (XU _) (RX λi h=>by
  have ne:((i+1:Nat):Int)≠((m+1:Nat):Int):=λz=>SP (UD.mp h) (Xf (T6 z));exact aa ((vf ne).1) rfl)
 have e2:bg (fR F ((m+1:Nat):Int) x k) (tJ 11) (lM m) (dM m)=bg F (tJ 11) (lM m) (dM m):=by
  funext k' i
  by_cases a:k'<10/\tJ 11 i
  ·exact (QR a).trans (QR a).symm
  ·refine (QP a).trans (Wl ?_ (QP a).symm)
   by_cases d:k'=10/\dM m i
   ·have ne:i≠((m+1:Nat):Int):=λz=>absurd (RZ.mp (z▸d.2.2)) (UB m)
    refine aa (QR d) (aa (QR d) ?_);unfold l9;exact aa ((vf ne).2) rfl
   ·exact aa (QP d) (aa (QP d) rfl)
 unfold fH;refine aa e1 (aa e2 ?_);rfl
include hB
theorem CN(fk:aE F)(ht:40<=t/\t<=50)(hf:n9 m t)(hm:m<22)(KK:a6 ks)(hk:ks.length<=400)(q:∀x,Sm F 11 14 x->∀ρ,bz [("w",.s 6),("nums",.s 44),("store",.s 15),("tid",.d (.int t)),("n",.d (.int (v.fdiv 12+5)))] ρ->K.ay ρ ⟨fH (fR F ((m+1:Nat):Int) x (aw (bC ks x) x)) (bC ks x) (m+1) nm as,[]⟩):
  aD xU (aL B (n+30) (xS t v (da ((m+1:Nat):Int))) Z) ⟨fH F ks m nm as,[]⟩ K:=by
 have lf:(gR m).length=m+1:=xc;have hx:0<=v.fmod 100003/\v.fmod 100003<6^7:=⟨Up _ (by decide),Uh (Wm _ (by decide)) (by decide)⟩;have dr:=λ{Q:W->HP->Prop} q=>(KQ (ks:=ks) (wr:=o3 bA) (r:=zB F (iF F m) (cX 11) (gR m) nm as) (f:=bg F (tJ 11) (lM m) (dM m)) (Z:=Z) (Q:=Q) hB fk 7 hx.1 hx.2 (by decide) q).le (by lia:7+n+2<=n+30);refine Wo.of (o:=aR (Si (gR m).length ah) (some (gR m).length)) (by refine aa lf ?_;exact Bt (Rt (UI hm) (by decide+kernel))) ?_;refine Gd.of rfl (dr λx sx=>?_);have f2:=Mp (n:=n) (Z:=Z) hB ht hf hm ⟨y0 (G:=fR F ((m+1:Nat):Int) x (aw (bC ks x) x)) (show F.ti=F.ti from rfl) sx.w,sx.fu,sx.sz⟩ KK hk (QR rfl) (QR rfl) (q x sx);rw [MQ] at f2;exact f2
end
section
variable{B:Bs}{F F0 G:Fx}{n m j:Nat}{Q:W->HP->Prop}{Z:QI->QI->HP->Prop}{K:Kw}{p:HP}{t i v:Int}{as f8:List W}{nm:List (QI×W)}{ks:List X}{x:X}(hB:aJ B)
structure FI(F0 F:Fx) ks m:Prop where
 ti:F.ti=F0.ti
 is:F.is=F0.is
 ns:F.ns=F0.ns
 K:a6 ks
 len:ks.length<=14*m
 fs:∀i,dM m i->kQ F ks i
theorem FI.next(I:FI F0 F ks m)(sx:Sm F 11 14 x):FI F0 (fR F ((m+1:Nat):Int) x (aw (bC ks x) x)) (bC ks x) (m+1):=
 have j:=iu F x I.K sx.w;have w:∀{y:X},Wx F y->Wx (fR F ((m+1:Nat):Int) x (aw (bC ks x) x)) y:=λh=>y0 (G:=fR F ((m+1:Nat):Int) x (aw (bC ks x) x)) (show F.ti=F.ti from rfl) h
 ⟨I.ti,I.is,I.ns,j.k,QN (nV x) (TH I.len sx.sz),λi h=>by
  by_cases e:i=((m+1:Nat):Int)
  ·have e1:(fR F ((m+1:Nat):Int) x (aw (bC ks x) x)).fx i=x:=QR e
   have e2:(fR F ((m+1:Nat):Int) x (aw (bC ks x) x)).fk i=aw (bC ks x) x:=QR e;exact ⟨by refine aa e1 ?_;exact j.has,by exact aa e1 (aa e2 rfl),by refine aa e1 ?_;exact w sx.w,by refine aa e1 ?_;exact QN sx.fu (by decide)⟩
  ·have u:=vf (F:=F) (x:=x) (k:=aw (bC ks x) x) e
   have f:=(I.fs i ⟨h.1,Sj ((Uo h.2).resolve_right e)⟩).more I.K j.pre;exact ⟨by refine aa u.1 ?_;exact f.has,by refine aa u.1 (aa u.2 ?_);exact f.ix,by refine aa u.1 ?_;exact w f.wx,by refine aa u.1 ?_;exact f.fu⟩⟩
theorem JJ:da ((2*j+1:Nat):Int)=sS "f":=QR (by lia)
theorem JI:da ((2*j+1+1:Nat):Int)=sS "g":=QP (by lia)
include hB
theorem Mn(fk:aE F0)(h16:0<F0.ns.length/\F0.ns.length<=16)(hj:j<11)(I:FI F0 F ks (2*j))(q:∀G ks,FI F0 G ks (2*(j+1))->∀ρ,bz cR ρ->K.ay ρ ⟨fH G ks (2*(j+1)) nm as,[]⟩):aD (Ss.bd 4 d7.body) (aL B (n+30) (cR++[("tid",W.d (.int ((40+j:Nat):Int)))]) Z) ⟨fH F ks (2*j) nm as,[]⟩ K:=by
 have ht:40<=((40+j:Nat):Int)/\((40+j:Nat):Int)<=50:=by lia
 have h16:=I.ns.symm▸h16;have fkk:∀{G:Fx},G.ti=F0.ti->aE G:=λ{G} e=>⟨by refine aa e ?_;exact fk.cnt,by refine aa e ?_;exact fk.aQ,by refine aa e ?_;exact fk.name,by refine aa e ?_;exact fk.bB,by refine aa e ?_;exact fk.pq,by refine aa e ?_;exact fk.rU,by refine aa e ?_;exact fk.rT⟩;obtain ⟨k,hk,ek⟩:=fO (((40+j:Nat):Int)-17) F.ns.length h16.1;have lp:=Rc (Ur.mpr h16.1);have sm:bE (((40+j:Nat):Int)-20)=true:=by refine aa (show((40+j:Nat):Int)-20=((20+j:Nat):Int) by lia) ?_;exact i9 (by lia)
 have hl:∀{m:Nat},m<=22->14*m<=400:=λh=>QN (Sa 14 h) (by decide);refine wh h16.2 ?_;refine Wo.of (by refine (?_:(aR _ (some _)).map _=_);refine aa lp (aa ek ?_);rfl) ?_;refine wi hk h16.2 λi=>?_;refine Wo.of (by refine (?_:(aR (bE 7&&bE (((40+j:Nat):Int)-20)) _).map _=_);refine aa sm ?_;rfl) ?_;refine Gd.of (by decide+kernel) ?_;refine ⟨rfl,[("w",.s 6),("nums",.s 44),("store",.s 15),("tid",.d (.int ((40+j:Nat):Int))),("n",.d (.int (i+7*(((40+j:Nat):Int)-20))))],⟨rfl,rfl,rfl,rfl,rfl,trivial⟩,?_⟩;have s1:=λ{K} q=>CN (n:=n) (Z:=Z) (K:=K) (v:=i+7*(((40+j:Nat):Int)-20)) (as:=as) (nm:=nm) hB (fkk I.ti) ht (.inl (by lia:((2*j+1:Nat):Int)=2*(((40+j:Nat):Int)-40)+1)) (by lia) I.K (QN I.len (hl (by lia))) q;rw [JJ] at s1;refine s1 λx sx ρ s=>⟨rfl,_,s,?_⟩;have I1:=I.next sx;have s2:=λ{K} q=>CN (n:=n) (Z:=Z) (K:=K) (v:=(i+7*(((40+j:Nat):Int)-20)).fdiv 12+5) (as:=as) (nm:=nm) hB (fkk I1.ti) ht (.inr (by lia:((2*j+1+1:Nat):Int)=2*(((40+j:Nat):Int)-40)+2)) (by lia) I1.K (QN I1.len (hl (by lia))) q;rw [JI] at s2;exact s2 λx sx ρ s=>⟨rfl,_,s,q _ _ (I1.next sx) _ ⟨rfl,rfl,rfl,trivial⟩⟩
end
section
variable{B:Bs}{F F0 G:Fx}{n m j:Nat}{Q:W->HP->Prop}{Z:QI->QI->HP->Prop}{K:Kw}{p:HP}{t i v:Int}{as f8 fl:List W}{nm:List (QI×W)}{ks:List X}{x:X}{D:Int->Prop}(hB:aJ B)
include hB
theorem Kn(fk:aE F)(k:K.ay cR ⟨sH F ks f8 (cX 11) fl (eX F 11) as (bg F (tJ 11) (λ_=>[]) D),[]⟩):wpS (Ss.hd 3 d7.body) (aL B (n+2) cR Z) ⟨sH F ks f8 (cX 0) fl [] as (bg F (tJ 0) (λ_=>[]) D),[]⟩ K:=xN rfl (λQ q=>q) nL (E9 hB fk k)
theorem Kp(fk:aE F)(h16:0<F.ns.length/\F.ns.length<=16)(q:∀G ks,FI F G ks 22->K.ay cR ⟨fH G ks 22 nm as,[]⟩):wpS (Ss.hd 4 d7.body) (aL B (n+30) cR Z) ⟨fH F [] 0 nm as,[]⟩ K:=
 xN rfl (λQ q=>q) nL
  (si (λj ρ h=>bz cR ρ/\∃G ks,FI F G ks (2*j)/\h=⟨fH G ks (2*j) nm as,[]⟩) (λρ h i=>by
    obtain ⟨s,G,ks,I,rfl⟩:=i;exact ⟨nL,_,s,q G ks I⟩) (λj hj ρ h M ih i=>by
    obtain ⟨s,G,ks,I,rfl⟩:=i;exact ⟨nL,_,s,Mn hB fk h16 hj I λG ks I ρ s=>ih ρ _ ⟨s,G,ks,I,rfl⟩⟩)
   ⟨⟨rfl,rfl,rfl,trivial⟩,F,[],⟨rfl,rfl,rfl,⟨SA,λ_ m=>(nomatch m),λ_ m=>(nomatch m)⟩,Rl _,λi h=>absurd (Ti h.1 h.2) (by decide)⟩,rfl⟩)
noncomputable def mx:List W:=[.d (sS "core"),.d (sS "lib"),.d (sS "app"),.d (sS "ext")]
theorem Ko{R:Ss}(k:aD R (aL B (n+30) cR Z) ⟨sH F [] [.d .none] (cX 0) [.d .none] [] mx (λ_ _=>none),[]⟩ K):aD (.cons (Ss.hd 0 d7.body) (.cons (Ss.hd 1 d7.body) (.cons (Ss.hd 2 d7.body) R))) (aL B (n+30) [("w",.s 6),("nums",.s 44)] Z) ⟨⟨sX (wR F [.d .none] (Q4 6 none) none),λ_ _=>none,gc F⟩,[]⟩ K:=by
 refine Gd.of rfl (Gz hB ?_);refine ⟨rfl,cR,⟨rfl,rfl,rfl,trivial⟩,rfl,cR,⟨rfl,rfl,rfl,trivial⟩,rfl,cR,⟨rfl,rfl,rfl,trivial⟩,rfl,cR,⟨rfl,rfl,rfl,trivial⟩,rfl,cR,⟨rfl,rfl,rfl,trivial⟩,?_⟩;exact ⟨.s 16,rfl,k⟩
end
section
variable{B:Bs}{F F0 G:Fx}{n m j:Nat}{Q:W->HP->Prop}{Z:QI->QI->HP->Prop}{K:Kw}{p:HP}{t i v:Int}{as f8 fl:List W}{nm:List (QI×W)}{ks:List X}{x:X}{D:Int->Prop}(hB:aJ B)
theorem MM:bg F (tJ 0) (λ_=>[]) (λ_=>False)=λ_ _=>none:=by
 funext k i
 exact mh (λz=>absurd (SE z.2.1 z.2.2) (aaA _)) λz=>z.2
theorem MK:bg F (tJ 11) (λ_=>[]) (λ_=>False)=bg F (tJ 11) (lM 0) (dM 0):=by
 funext k i
 by_cases h:k<10/\tJ 11 i
 ·have e:(λ_=>[]:Int->List W) i=lM 0 i:=by
   have g:=h.2.1;unfold lM;refine aa (QP (by lia)) (aa (QP (by lia)) ?_);rfl
  refine (QR h).trans (Wl ?_ (QR h).symm);unfold lg;exact aa e rfl
 ·exact (mh h λz=>z.2).trans (mh h λz=>absurd (Ti z.2.1 z.2.2) (by decide)).symm
include hB
theorem KH(fk:aE F)(h16:0<F.ns.length/\F.ns.length<=16)(q:∀G ks,FI F G ks 22->Q (.s 15) (fH G ks 22 (eX F 11) mx)):aq B (n+31) "_law_store" [.s 6,.s 44] ⟨sX (wR F [.d .none] (Q4 6 none) none),λ_ _=>none,gc F⟩ Q Z:=by
 have l4:=Kp (n:=n) (Z:=Z) (K:=⟨Sq (aD (Ss.dr 5 d7.body)) (eQ B (n+30) Z) (bO Q),Q,kF⟩) hB fk h16 q;unfold fH at l4;rw [←MK] at l4;have l3:=Kn (n:=n+28) (Z:=Z) (K:=⟨Sq (aD (Ss.dr 4 d7.body)) (eQ B (n+30) Z) (bO Q),Q,kF⟩) hB fk l4;rw [MM] at l3;exact .df hB 60 rfl rfl (Ko hB (R:=.cons (Ss.hd 3 d7.body) (Ss.dr 4 d7.body)) l3)
end
section
variable{B:Bs}{F:Fx}{n:Nat}{Q:W->HP->Prop}{Z:QI->QI->HP->Prop}{K:Kw}{is:List Int}(hB:aJ B)
noncomputable def ni(is:List Int):List Int:=if is=[] then [12,17,305] else(is.take 16).map λi=>i.fmod 1000003
noncomputable def jF(is:List Int):Fx:=⟨is,ni is,jU (ni is),λ_=>0,λ_=>.p 7⟩
noncomputable def n6(is:List Int):HP:=⟨Q4 46 none,λ_ _=>none,gc (jF is)⟩
theorem Jh{l:List Int}:fW (iW l)=true:=by
 induction l with
 |nil=>rfl
 |cons a l ih=>exact ih
theorem wj:0<(ni is).length/\(ni is).length<=16:=by
 unfold ni;by_cases e:is=[]
 ·refine aa (QR e) ?_;decide
 ·(refine aa (QP e) ?_;rewrite [QX];refine aa Vy ?_)
  exact ⟨Nat.lt_min.mpr ⟨by decide,List.length_pos_iff.mpr e⟩,ZL ..⟩
theorem KM(h63:is.length<=63)(k:∀tl,K.ay [("script",.g 4),("nums",.s 44)] ⟨n0 (jF is),tl⟩):aD (.cons (Ss.hd 0 fj.body) (.cons (Ss.hd 1 fj.body) .nil)) (aL B n [("script",.g 4)] Z) ⟨n6 is,[]⟩ K:=by
 have hl:(iW is).length<ah:=dU.symm▸QO h63 (by decide+kernel);have ht:((iW is).take 16).length<ah:=QO (VT ..) (by decide+kernel:16<ah);have it:∀{tl},cc ⟨n6 is,.lst ((iW is).take 16)::tl⟩ (.t 0)=some (1,(is.take 16).map λi=>.d (.int i)):=λ{tl}=>(qw rfl ht).trans (QQ (λl=>some (1,l)) List.map_take.symm);have hm:∀{l:List Int},(l.map λi:Int=>W.d (.int (i.fmod 1000003)))=iW (l.map λi=>i.fmod 1000003):=λ{l}=>by unfold iW;refine aa Ui ?_;rfl
 have hL:(iW ((is.take 16).map λi=>i.fmod 1000003)).length<ah:=by(refine aa dU ?_;rewrite [QX];refine aa Vy ?_);exact QO (ZL ..) (by decide+kernel)
 refine Gd.lim hl ⟨.t 0,rfl,?_⟩;refine Wo.of it ?_;refine tZ it (is.take 16) [] (λi m R N q=>q) ?_
 cases is with
 |nil=>exact ⟨.t 1,rfl,.s 44,rfl,k _⟩
 |cons a is=>
  have en:ni (a::is)=((a::is).take 16).map λi=>i.fmod 1000003:=QP λe=>nomatch e;refine ⟨.s 44,rfl,Gd.of ((QQ fW hm).trans Jh) ?_⟩;refine Wo.len (by refine aa hm ?_;exact hL) ?_;have k:=k [.lst ((iW (a::is)).take 16)];unfold n0 at k;rw [show(jF (a::is)).ns=((a::is).take 16).map (λi=>i.fmod 1000003) from en,←hm] at k;exact k
end
section
variable{B:Bs}{F:Fx}{n:Nat}{Q:W->HP->Prop}{Z:QI->QI->HP->Prop}{K:Kw}{ks:List X}{nm:List (QI×W)}{x0:List (Option af)}(hB:aJ B)
def a4(F:Fx)(ks:List X)(nm:List (QI×W))(l:List (Option af)):HP:=kH F ks (o3 bA) (some (.lst (iF F 22))::some (.lst [])::some (.lst [])::some (.lst [])::some (.lst [])::some (.lst [])::some (.lst [])::some (vC 16)::some (.lst (cX 11))::some (.lst (gR 22))::n1::some (.aj 3 nm)::some (.lst mx)::(l++[some (.lst (iW F.ns)),n1])) (bg F (tJ 11) (lM 22) (dM 22))
noncomputable def pP:Ro:=[("self",.s 21),("store",.s 15),("asm",.d (.int 2))]
noncomputable def IK:Ro:=[("store",.s 15),("asm",.d (.int 2)),("ts",.s 22),("texts",.s 24),("users",.s 26),("guids",.s 28),("blobs",.s 30),("code",.s 32),("tokens",.d .none),("tids",.s 33),("type_rows",.s 34),("field_rows",.s 35),("method_rows",.s 36),("asm_refs",.s 37),("type_refs",.s 38),("specs",.s 39),("members",.s 40),("method_specs",.s 41),("locals_sigs",.s 42),("rvas",.s 43)]
noncomputable def IJ:List af:=[(.obj "PlainTables" [("rows",.s 23)]),(.aj 1 []),(.obj "PlainHeap" [("rows",.s 25)]),(.lst [.d (sS "")]),(.obj "PlainHeap" [("rows",.s 27)]),(.lst [.d (sS "")]),(.obj "PlainHeap" [("rows",.s 29)]),(.lst [.bb]),(.obj "PlainHeap" [("rows",.s 31)]),(.lst [.bb]),.cH,(.lst []),(.aj 1 []),(.aj 1 []),(.aj 1 []),(.aj 1 []),(.aj 1 []),(.aj 1 []),(.aj 3 []),(.aj 1 []),(.aj 1 []),(.aj 1 [])]
noncomputable def bt(i j:Nat):List (Option af):=some (.obj "Pages" (IK.take i))::((IJ.take j).map some++Q4 (22 -j) none)
noncomputable def Ax:List (Option af):=some (.obj "Pages" [])::Q4 22 none
def jY:List (Option af):=(bt 7 10)
def vZ:List (Option af):=(bt 8 11)
noncomputable def m8:List (Option af):=(bt 20 22)
noncomputable def Ss.tk(n:Nat)(s:Ss):Ss:=n.rec (λ_=>.nil) (λ_ f s=>s.casesOn .nil λx r=>.cons x (f r)) s
theorem cU{s':List (Option af)}{f:Nat->Int->Option af}{g:List af}{tl:List af}{j:Nat}{w:W}{cx:Wc}{h:Hs}{x nm:String}{e:E}{A:Ro}{K:Kw}(lk:look cx.ρ "self"=some (.s j))(ev:∀Q:W->Hs->Prop,Q w ⟨⟨s',f,g⟩,tl⟩->aZ e cx h Q)(o:aV s' j=some (some (.obj nm A)))(ha:Uv A.length 100=true)(nt:w.nt=true){s'':List (Option af)}(e'':upd s' j (some (.obj nm (dk A x w)))=s'')(q:K.ay cx.ρ ⟨⟨s'',f,g⟩,tl⟩):wpS (.gp (.lv "self") x e) cx h K:=by
 subst e'';exact ev _ (Wo.of lk (Wo.of (x:=(nm,A)) (QQ (λo=>jd (jn o)) o) (Gd.of (by refine aa (w5 ha) ?_;exact nt) q)))
include hB
theorem sA{s:List (Option af)}{f:Nat->Int->Option af}{g:List af}{k:Nat}{z:W}(f1:nQ (aV s k)=true)(f2:nQ (aV (upd s k (some (.obj "PlainHeap" []))) (k+1))=true)(q:Q (.s k) ⟨upd (upd (upd s k (some (.obj "PlainHeap" []))) (k+1) (some (.lst [z]))) k (some (.obj "PlainHeap" [("rows",.s (k+1))])),f,g⟩)(nt:z.nt=true):aq B (n+2) "PlainHeap" [z] ⟨s,f,g⟩ Q Z:=(hB.c 1 _ _ rfl).elim λD hC=>
 .cls hC (by rfl) (hB.x 20 _ _ rfl) (.s k) rfl f1 (.df hB 20 rfl rfl (step (cU (x:="rows") (e:=.lst (.cons (.lv "zero") .nil)) (w:=.s (k+1)) (A:=[]) rfl (λQ q=>⟨.s (k+1),f2,Gd.of (by refine (?_:(z.nt&&true)=true);refine aa nt ?_;rfl) q⟩) ((iw (nP f2▸Q1 _)).trans ((QP (SP (SU k))).trans ((iw (nP f1▸Q1 _)).trans (QR rfl)))) rfl rfl rfl ⟨rfl,q⟩)))
theorem Gf{s:List (Option af)}{f:Nat->Int->Option af}{g:List af}{k:Nat}(f1:nQ (aV s k)=true)(f2:nQ (aV (upd s k (some (.obj "PlainTables" []))) (k+1))=true)(q:Q (.s k) ⟨upd (upd (upd s k (some (.obj "PlainTables" []))) (k+1) (some (.aj 1 []))) k (some (.obj "PlainTables" [("rows",.s (k+1))])),f,g⟩):aq B (n+2) "PlainTables" [] ⟨s,f,g⟩ Q Z:=(hB.c 2 _ _ rfl).elim λD hC=>
 .cls hC (by rfl) (hB.x 23 _ _ rfl) (.s k) rfl f1 (.df hB 23 rfl rfl (step (cU (x:="rows") (e:=.aj .nil) (w:=.s (k+1)) (A:=[]) rfl (λQ q=>⟨1,.s (k+1),f2,Gd.of rfl q⟩) ((iw (nP f2▸Q1 _)).trans ((QP (SP (SU k))).trans ((iw (nP f1▸Q1 _)).trans (QR rfl)))) rfl rfl rfl ⟨rfl,q⟩)))
set_option maxHeartbeats 2000000 in
theorem I0(k:K.ay pP ⟨a4 F ks nm jY,[]⟩):aD (Ss.tk 7 ux.body) (aL B (n+2) pP Z) ⟨a4 F ks nm Ax,[]⟩ K:=
 (step (cU (x:="store") (e:=.lv "store") (w:=W.s 15) (s':=(a4 F ks nm (bt 0 0)).s) (s'':=(a4 F ks nm (bt 1 0)).s) rfl (λQ q=>q) rfl rfl rfl rfl
  (step (cU (x:="asm") (e:=.lv "asm") (w:=W.d (.int 2)) (s':=(a4 F ks nm (bt 1 0)).s) (s'':=(a4 F ks nm (bt 2 0)).s) rfl (λQ q=>q) rfl rfl rfl rfl
  (step (cU (x:="ts") (e:=.call "PlainTables" .nil) (w:=W.s 22) (s':=(a4 F ks nm (bt 2 2)).s) (s'':=(a4 F ks nm (bt 3 2)).s) rfl (λQ q=>Gd.of rfl (Gd.of rfl (Gf hB rfl rfl q))) rfl rfl rfl rfl
  (step (cU (x:="texts") (e:=.call "PlainHeap" (.cons (.lit (.str (QJ ""))) .nil)) (w:=W.s 24) (s':=(a4 F ks nm (bt 3 4)).s) (s'':=(a4 F ks nm (bt 4 4)).s) rfl (λQ q=>Gd.of rfl (Gd.of rfl (sA (z:=.d (sS "")) hB rfl rfl q rfl))) rfl rfl rfl rfl
  (step (cU (x:="users") (e:=.call "PlainHeap" (.cons (.lit (.str (QJ ""))) .nil)) (w:=W.s 26) (s':=(a4 F ks nm (bt 4 6)).s) (s'':=(a4 F ks nm (bt 5 6)).s) rfl (λQ q=>Gd.of rfl (Gd.of rfl (sA (z:=.d (sS "")) hB rfl rfl q rfl))) rfl rfl rfl rfl
  (step (cU (x:="guids") (e:=.call "PlainHeap" (.cons .lK .nil)) (w:=W.s 28) (s':=(a4 F ks nm (bt 5 8)).s) (s'':=(a4 F ks nm (bt 6 8)).s) rfl (λQ q=>Gd.of rfl (Gd.of rfl (sA (z:=.bb) hB rfl rfl q rfl))) rfl rfl rfl rfl
  (step (cU (x:="blobs") (e:=.call "PlainHeap" (.cons .lK .nil)) (w:=W.s 30) (s':=(a4 F ks nm (bt 6 10)).s) (s'':=(a4 F ks nm (bt 7 10)).s) rfl (λQ q=>Gd.of rfl (Gd.of rfl (sA (z:=.bb) hB rfl rfl q rfl))) rfl rfl rfl rfl
  k))))))))))))))
set_option maxHeartbeats 2000000 in
omit hB in
theorem IZ(k:K.ay pP ⟨a4 F ks nm m8,[]⟩):aD (Ss.dr 8 ux.body) (aL B n pP Z) ⟨a4 F ks nm vZ,[]⟩ K:=
 (step (cU (x:="tokens") (e:=.lit .none) (w:=W.d .none) (s':=(a4 F ks nm (bt 8 11)).s) (s'':=(a4 F ks nm (bt 9 11)).s) rfl (λQ q=>q) rfl rfl rfl rfl
  (step (cU (x:="tids") (e:=.lst .nil) (w:=W.s 33) (s':=(a4 F ks nm (bt 9 12)).s) (s'':=(a4 F ks nm (bt 10 12)).s) rfl (λQ q=>⟨.s 33,rfl,Gd.of rfl q⟩) rfl rfl rfl rfl
  (step (cU (x:="type_rows") (e:=.aj .nil) (w:=W.s 34) (s':=(a4 F ks nm (bt 10 13)).s) (s'':=(a4 F ks nm (bt 11 13)).s) rfl (λQ q=>⟨1,.s 34,rfl,Gd.of rfl q⟩) rfl rfl rfl rfl
  (step (cU (x:="field_rows") (e:=.aj .nil) (w:=W.s 35) (s':=(a4 F ks nm (bt 11 14)).s) (s'':=(a4 F ks nm (bt 12 14)).s) rfl (λQ q=>⟨1,.s 35,rfl,Gd.of rfl q⟩) rfl rfl rfl rfl
  (step (cU (x:="method_rows") (e:=.aj .nil) (w:=W.s 36) (s':=(a4 F ks nm (bt 12 15)).s) (s'':=(a4 F ks nm (bt 13 15)).s) rfl (λQ q=>⟨1,.s 36,rfl,Gd.of rfl q⟩) rfl rfl rfl rfl
  (step (cU (x:="asm_refs") (e:=.aj .nil) (w:=W.s 37) (s':=(a4 F ks nm (bt 13 16)).s) (s'':=(a4 F ks nm (bt 14 16)).s) rfl (λQ q=>⟨1,.s 37,rfl,Gd.of rfl q⟩) rfl rfl rfl rfl
  (step (cU (x:="type_refs") (e:=.aj .nil) (w:=W.s 38) (s':=(a4 F ks nm (bt 14 17)).s) (s'':=(a4 F ks nm (bt 15 17)).s) rfl (λQ q=>⟨1,.s 38,rfl,Gd.of rfl q⟩) rfl rfl rfl rfl
  (step (cU (x:="specs") (e:=.aj .nil) (w:=W.s 39) (s':=(a4 F ks nm (bt 15 18)).s) (s'':=(a4 F ks nm (bt 16 18)).s) rfl (λQ q=>⟨1,.s 39,rfl,Gd.of rfl q⟩) rfl rfl rfl rfl
  (step (cU (x:="members") (e:=.aj .nil) (w:=W.s 40) (s':=(a4 F ks nm (bt 16 19)).s) (s'':=(a4 F ks nm (bt 17 19)).s) rfl (λQ q=>⟨3,.s 40,rfl,Gd.of rfl q⟩) rfl rfl rfl rfl
  (step (cU (x:="method_specs") (e:=.aj .nil) (w:=W.s 41) (s':=(a4 F ks nm (bt 17 20)).s) (s'':=(a4 F ks nm (bt 18 20)).s) rfl (λQ q=>⟨1,.s 41,rfl,Gd.of rfl q⟩) rfl rfl rfl rfl
  (step (cU (x:="locals_sigs") (e:=.aj .nil) (w:=W.s 42) (s':=(a4 F ks nm (bt 18 21)).s) (s'':=(a4 F ks nm (bt 19 21)).s) rfl (λQ q=>⟨1,.s 42,rfl,Gd.of rfl q⟩) rfl rfl rfl rfl
  (step (cU (x:="rvas") (e:=.aj .nil) (w:=W.s 43) (s':=(a4 F ks nm (bt 19 22)).s) (s'':=(a4 F ks nm (bt 20 22)).s) rfl (λQ q=>⟨1,.s 43,rfl,Gd.of rfl q⟩) rfl rfl rfl rfl
  k))))))))))))))))))))))))
end
section
variable{B:Bs}{F G:Fx}{n:Nat}{Q:W->HP->Prop}{Z:QI->QI->HP->Prop}{K:Kw}{ks:List X}{nm:List (QI×W)}{is:List Int}{tl:List af}(hB:aJ B)
noncomputable def Bl:Ro:=[("script",.g 4),("nums",.s 44),("w",.s 6),("store",.s 15)]
theorem Mg(h:aE F)(e:G.ti=F.ti):aE G:=⟨e.symm▸h.cnt,e.symm▸h.aQ,e.symm▸h.name,e.symm▸h.bB,e.symm▸h.pq,e.symm▸h.rU,e.symm▸h.rT⟩
include hB
theorem KX(h63:is.length<=63)(q:∀G ks tl,FI (jF is) G ks 22->K.ay Bl ⟨fH G ks 22 (eX (jF is) 11) mx,tl⟩):aD (Ss.tk 4 fj.body) (aL B (n+32) [("script",.g 4)] Z) ⟨n6 is,[]⟩ K:=by
 refine KM (K:=⟨Sq (aD (Ss.dr 2 (Ss.tk 4 fj.body))) (eQ B (n+32) Z) K,K.ret,K.cnt⟩) h63 λtl=>?_;refine ER hB rfl wj ?_;exact Gd.of rfl (KH hB (CG rfl) wj λG ks I=>q G ks tl I)
omit hB
noncomputable def S0:LS:=⟨[],[],[],[],[],[]⟩
noncomputable def C0(ks:List X):Ct:=⟨ks,[QJ ""],[],[]⟩
theorem Ju(e:G.ti=F.ti){l:List Int}:j4 G l=j4 F l:=by unfold j4;exact aa e rfl
theorem II(I:FI F G ks 22):a4 G ks (eX F 11) m8=nH G (mk G S0 S0 (C0 ks)) bA (cX 11) [] [] []:=by
 have e1:bg G (tJ 11) (lM 22) (dM 22)=d9 G (mk G S0 S0 (C0 ks)):=MD rfl (λi=>rS) (λi=>Iff.rfl) λi h=>by unfold lM;refine aa (QR (by lia)) (aa (QR (by lia)) ?_);rfl
 have e2:eX F 11=j4 G Internal.dz:=(Ju I.ti).symm;unfold a4;refine aa e1 (aa e2 ?_);rfl
theorem Fh:cX 11=jQ:=rfl
theorem FQ(I:FI F G ks 22):TS G 0 S0 (C0 ks):=
 have n:∀{α:Type}{P:α->Prop},∀a∈([]:List α),P a:=λ_ m=>nomatch m
 ⟨⟨SA,n,SA,n,I.K,SA,n,SA,n,rfl,rfl,n,n,RV _ _,λx m=>QW.mp m▸VN _ (.head _),n,SA,n,λ_=>rfl,λ_=>rfl,λ_=>rfl,λ_=>rfl,λ_ _ z=>z.elim,⟨Rl _,Rl _,Rl _⟩,by decide⟩,
  ⟨⟨SA,n,SA,n⟩,n,n,⟨by decide,by decide⟩,by decide,by decide⟩,QN I.len (by decide),λi h=>I.fs i h⟩
include hB
theorem KW(I:FI (jF is) G ks 22)(h63:is.length<=63)(q:∀S C b,K.ret (.d (.bool true)) (bw G S C b)):aD (Ss.dr 5 fj.body) (aL B (n+36) w3 Z) ⟨a4 G ks (eX (jF is) 11) m8,tl⟩ K:=by
 have fk:=Mg (CG rfl) I.ti;have en:=I.ns;have ei:=I.is;refine aa (II I) (aa Fh ?_);refine Gd.of rfl (Jg hB fk rfl ?_);exact KI hB fk (ei▸h63) (en▸wj) (λz=>Nk (I.ti.trans (en▸rfl)) (en.trans (QR (ei.symm.trans z)))) (FQ I) q
end
end
section
open _root_.PySem _root_.PySem.Calls PyProof.Rows
open scoped Classical
def jK(B:Bs)(n:Nat)(f:String)(vs:List V)(σ:Map)(Q:V->Map->Prop):Prop:=∀(A:Rg) φ s l u us,B.bD f=some u->A.frames=some l->eG φ l->A.depth+4*n+6<TF->A.units+60*n+350<cLine->A.handled=none->
 ag B σ φ s->ai (ak s.heap) vs us->aU B.M A (T3 u us) (aA B φ s.heap Q) (λ_ _=>False) s
def cG(c:Cx)(S:Ss)(σ:Map)(K:bK):Prop:=∀(A:Rg) env sc(φ₀ φ) s z,Fr c A env sc φ₀ φ->A.handled=none->dI sc S z->ag c.B σ φ s->aU c.B.M A (execs z env) (bG c A env sc φ₀ s.heap K) (λ_ _=>False) s
def pY:QI->QI->Map->Prop:=λ_ _ _=>False
theorem J5{sc:RE}:∀(k:Nat) S z,dI sc S z->∃z1 z2,z=z1++z2/\dI sc (Ss.tk k S) z1/\dI sc (Ss.dr k S) z2:=λk=>by
 induction k with
 |zero=>exact λS z m=>⟨[],z,rfl,rfl,m⟩
 |succ k ih=>
  intro S z m
  cases S with
  |nil=>exact ⟨[],z,rfl,rfl,by cases k<;>exact m⟩
  |cons x r=>
   exact dI.cons (P:=λz=>∃z1 z2,z=z1++z2/\dI sc (Ss.tk (k+1) (.cons x r)) z1/\dI sc (Ss.dr (k+1) (.cons x r)) z2) m λt ts m1 m2=>ao (ih r ts m2) λz1 z2 h=>⟨t::z1,z2,QQ _ h.1,Q8.mpr ⟨m1,h.2.1⟩,h.2.2⟩
section
variable{M:Ub}{A:Rg}{E:QS->QT->Prop}{env:Env}
theorem EH{l1 l2:List So}{Q:ZE->QT->Prop}{s:QT}(h:aU M A (execs l1 env) (λf s'=>match f with|.next=>aU M A (execs l2 env) Q E s'|f=>Q f s') E s):aU M A (execs (l1++l2) env) Q E s:=by
 have e:∀l1:List So,execs (l1++l2) env=(execs l1 env>>=λf=>match f with|.next=>execs l2 env|f=>pure f):=by
  intro l1
  induction l1 with
  |nil=>
   refine (?_:_=((pure aaV:Sem ZE)>>=_));rewrite [pure_bind]
   rfl
  |cons t l ih=>
   (refine aa Vv ?_;rewrite [aaa,aaa,bind_assoc])
   congr 1
   funext f
   cases f with
   |next=>exact ih
   |_=>(rewrite [pure_bind];rfl)
 refine aa (e l1) ?_;refine bH (cB h (λf s' h'=>?_) λ_ _ x=>x)
 cases f with
 |next=>exact h'
 |_=>exact fv h'
end
section
variable{c:Cx}{σ:Map}{K:bK}
theorem Px.none{B:Bs}{φ:Map}{ph:Option QS->Prop}{X:QI->QI->Map->Prop}{e:QS}{s:QT}(h:∀p q σ,¬X p q σ)(x:Px B φ ph X e s):False:=cm x λp q σ η y z=>h p q σ z.1
theorem cG.pre(hx:∀p q σ,¬c.X p q σ) k{S:Ss}(h:Ex c (Ss.tk k S) σ ⟨λρ σ=>cG (c.at ρ) (Ss.dr k S) σ K,K.ret,K.cnt⟩):cG c S σ K:=λA env sc φ₀ φ s z t hh m S'=>by
 obtain ⟨z1,z2,rfl,m1,m2⟩:=J5 k S z m;refine EH (cB (bM (h A env sc φ₀ φ s z1 t hh m1 S')) (λf s1 P=>?_) λe s1 P=>P.elim λ_ P=>P.2.none hx)
 cases f with
 |next=>exact az P λρ σ1 φ1 y=>cB (y.1 A env sc φ₀ φ1 s1 z2 y.2.1 hh m2 y.2.2.1) (λ_ _ z=>bG.after y.2.2.2 z) λ_ _ z=>z
 |brk=>exact P
 |cont=>exact P
 |ret u=>exact P
theorem cG.of(hx:∀p q σ,¬c.X p q σ){S:Ss}(h:Ex c S σ K):cG c S σ K:=λA env sc φ₀ φ s z t hh m S'=>cB (bM (h A env sc φ₀ φ s z t hh m S')) (λ_ _ P=>P) λe s1 P=>P.elim λ_ P=>P.2.none hx
end
section
variable{M:Ub}{A:Rg}{E:QS->QT->Prop}{s:QT}{env:Env}
theorem EJ{x pos' value pos}{Q:ZE->QT->Prop}
  (h:aU M A (eval value env) (λv s₁=>aU M A (storeName env x v) (λ_=>Q .next) E s₁) E s)
  (hs:V1 value (some (.Name x pos')) pos.line env=pure false):
  aU M A (exec (.Assign [.Name x pos'] value pos) env) Q E s:=λΓ p hΓ h1 h2=>by
 simp only [exec_Assign_Name env x pos' value pos hs,W7,Yx,Sem.wp_bindName,abO];exact Uc M Γ _ (λv _ s₁ h₁=>h₁ Γ _ hΓ h1 h2) (λ_ _ _ h'=>h') _ _ (h Γ _ hΓ h1 h2)
theorem EK{o attr pos' value pos}{Q:ZE->QT->Prop}
  (h:aU M A (eval value env) (λv s₁=>aU M A (eval o env) (λov s₂=>aU M A (WK ov attr v) (λ_=>Q .next) E s₂) E s₁) E s)
  (hs:V1 value (some (.Attribute o attr pos')) pos.line env=pure false):
  aU M A (exec (.Assign [.Attribute o attr pos'] value pos) env) Q E s:=λΓ p hΓ h1 h2=>by
 simp only [plainObj_exec_Assign_Attribute o attr pos' value pos hs,assign_Attribute,W7,ZQ,Yx,Sem.wp_release,abO];exact Uc M Γ _ (λv p₁ s₁ h₁=>Uc M Γ _ (λov _ s₂ h₂=>h₂ Γ _ hΓ h1 h2) (λ_ _ _ h'=>h') _ _ (h₁ Γ p₁ hΓ h1 h2)) (λ_ _ _ h'=>h') _ _ (h Γ _ hΓ h1 h2)
theorem y3{x:Str}{np pos:Pos}{args:List QL}{keywords:List YC}{Q:QS->QT->Prop}
  (h:aU M A (eval (.Name x np) env) (λf s₁=>aU M A (ZY pos f [] (Y6 pos (V6 args env)) (Z0 pos (XA keywords env))) Q E s₁) E s):
  aU M A (eval (.Call (.Name x np) args keywords pos) env) Q E s:=by
 exact bH h
def jJ(h:Rn)(u:QS):Prop:=∀(M:Ub) A E s Q,(∀b o,h.get? b=some o->s.heap.get? b=some o)->Q .machine s->wpAny M A (keeperOf u) Q E s
theorem jJ.ty{h:Rn}{T:String}:jJ h (.type T):=λ_ _ _ _ _ _ q=>QV q
theorem jJ.cl{h:Rn}{C nm q N bs bm hdct sn sub ab col dd k0 k1 k2 k3 k5 newId}(hC:h.get? C=some (U5 nm q C N bs bm hdct sn sub ab col dd k0 k1 k2 k3 k5 newId)):jJ h (.ref C):=λ_ _ _ _ _ k q=>Yo (k _ _ hC) q
theorem DT{B:Bs}{pos:Pos}{u:QS}{l:List QL}{Q:QS->QT->Prop}(hc:jJ B.h u)
  (h:wpAny M A (XS (l.map λe=>(false,eval e env))) (λvs s₁=>(∃τ,Rel B τ s₁)/\aU M A (call u vs) Q E s₁) E s):aU M A (ZY pos u [] (l.map λe=>(false,eval e env)) []) Q E s:=by
 refine bH (kX (bM (aG (qP (Q:=λa s₁=>(∃τ,Rel B τ s₁)/\aU M A (call u ([]++a.pos) a.kw) Q E s₁) h) (λx s₁ h₁=>bH (bM (Sf ?_))))));rewrite [rL];exact bH (bM (hc _ _ _ _ _ (h₁.1.elim λ_ R=>R.base) (bH (cB h₁.2 (λr s₂ hr=>bM (QM (RA (Xx (QV hr))))) λ_ _ x=>x))))
end
section
variable{c:Cx}{σ:Map}{K:bK}{es:Es}{f x:String}{r:Ss}
theorem cG.seq{A:Rg}{env:Env}{sc:RE}{φ₀:Map}{s:QT}{t:So}{ts:List So}(hh:A.handled=none)(m:dI sc r ts)
  (h:aU c.B.M A (exec t env) (λfl s2=>fl=.next/\bL c A env sc φ₀ s.heap (λρ σ=>cG (c.at ρ) r σ K) s2) (λ_ _=>False) s):aU c.B.M A (execs (t::ts) env) (bG c A env sc φ₀ s.heap K) (λ_ _=>False) s:=
 EG (cB h (λfl s2 P=>by
  obtain ⟨rfl,P⟩:=P;exact az P λρ σ1 φ1 y=>cB (y.1 A env sc φ₀ φ1 s2 ts y.2.1 hh m y.2.2.1) (λ_ _ z=>bG.after y.2.2.2 z) λ_ _ z=>z) λ_ _ z=>z)
theorem cG.call(hh:c.h=false)(hx:∀p q σ,¬c.X p q σ)(hk:c.κ.lookup x=none)(hc:∀u,c.B.bD f=some u->jJ c.B.h u)(h:cM c es σ λvs σ=>jK c.B c.n f vs σ λv σ=>cG (c.at ((x,v)::c.ρ)) r σ K):cG c (.cons (.asg x (.call f es)) r) σ K:=λA env sc φ₀ φ s z t hh' m S=>by
 refine m.cons λy ys m1 m2=>cY.inv m1 λls v p w=>a8.inv (ae w).1 λtg g=>dS.inv (bq.b (ae w).2) λfn l kw p' mf=>?_;obtain ⟨⟨q,rfl⟩,hs⟩:gq sc x tg:=cO.inv g;have mf:=cV mf;obtain rfl:=isNil.inv mf.1;have mg:jE sc f fn:=dg.inv mf.2.2.1;have ml:cK sc es l:=(ae mf.2.2.2).2;refine cG.seq hh' m2 ?_;obtain ⟨u,hu⟩:=c.B.has f mf.2.1;obtain ⟨q',rfl⟩:=mg.1.1;refine EJ (y3 (bM (ig S t.at' mg (c.B.look f u mf.2.1 hu) ?_))) (lj rfl);rewrite [fS ml];refine DT (hc u hu) (RF (h A env sc φ s l t.at' ml S) (λus s1 P=>P.elim λvs σ1 k r' S1 tk=>⟨⟨_,S1.rel⟩,?_⟩) λe s1 P=>P.none hx);refine ao t.at'.fe λg l' y'=>cB (k A φ s1 (g::l') u us hu y'.1 y'.2.2 (QO (Rj (by decide) _) t.at'.dep) (QO (Rj (by decide) _) t.at'.fy) hh' S1 r') (λw s2 P=>?_) λ_ _ z=>z;exact P.elim λv σ2 q2 r2 S2 tk2=>cB (bM (jW t hs hk S2 r2)) (λ_ s3 B=>⟨rfl,bL.of (B.after (tk.trans tk2)) q2⟩) λ_ _ z=>z
end
section
variable{c:Cx}{σ:Map}{K:bK}{es:Es}{f x:String}{r:Ss}
theorem cG.ba{a d:Q5}{n:String}{l:aK}(hx:∀p q σ,¬c.X p q σ)(hl:c.ρ.lookup "self"=some (.r a))(hba:c.B.bD "bytearray"=some (.type "bytearray"))(ha:σ a=some (.ins n d))(hd:σ d=some (.aF l))(sz:l.length<ah)
  (h:∀b,σ b=none->cG c r ((σ.put b .cH).put d (.aF (fE l "code" (.r b)))) K):cG c (.cons (.gp (.lv "self") "code" (.call "bytearray" .nil)) r) σ K:=λA env sc φ₀ φ s z t hh' m S=>by
 refine m.cons λy ys m1 m2=>cY.inv m1 λls v p w=>a8.inv (dG w).1 λtg g=>eN.inv (bq.b g) λo' a' q g=>dS.inv (bq.b (dG w).2.2) λfn l' kw p' mf=>?_;have g:=cV g;obtain rfl:=eq_of_beq g.1;have hat:=g.2.1;have mo:bq sc (.lv "self") o':=g.2.2.2;have mf:=cV mf;obtain rfl:=isNil.inv mf.1;have mg:jE sc "bytearray" fn:=dg.inv mf.2.2.1;have ml:cK sc .nil l':=(ae mf.2.2.2).2;refine cG.seq hh' m2 ?_;obtain ⟨q',rfl⟩:=mg.1.1;obtain rfl:=ml.nil;refine EK (y3 (bM (ig S t.at' mg (c.B.look _ _ mf.2.1 hba) ?_))) (lj rfl);rewrite [fS ml];refine DT .ty (U7 ⟨⟨_,S.rel⟩,N5 λh' e1 e2=>?_⟩);have n0:s.heap.get? s.heap.objs.size=none:=Ru (Rl _);have f0:=(S.fresh n0).1;have S1:ag c.B (σ.put s.heap.objs.size .cH) φ {s with heap:=h'}:=S.new e2 n0 λ_=>⟨_,e1,.of rfl (by decide),trivial⟩;have nd:d≠s.heap.objs.size:=λe=>nomatch(e▸hd).symm.trans f0;have na:a≠s.heap.objs.size:=λe=>nomatch(e▸ha).symm.trans f0;refine cB (bM (t.ev (Q:=λv σ'=>v=.r a/\σ'=σ.put s.heap.objs.size .cH) (G:=λov s2=>aU c.B.M A (WK ov (QJ "code") (.ref s.heap.objs.size)) (λ_ s2=>aaV=aaV/\bL c A env sc φ₀ s.heap (λρ σ=>cG (c.at ρ) r σ K) s2) (λ_ _=>False) s2) (Ev.lv hl ⟨rfl,rfl⟩) mo S1 λu s2 v σ2 q2 r2 S2 tk2=>?_)) (λ_ _ P=>P) λ_ _ P=>P.elim λ_ P=>P.2.none hx;obtain ⟨rfl,rfl⟩:=q2;have eu:=r2;subst eu;exact bM (aG (zL S2 hat ((Map.aO na).trans ha) ((Map.aO nd).trans hd) sz (w:=.r s.heap.objs.size) rfl (h _ f0)) (λ_ _ P=>⟨rfl,dY.xK t ((ax.of e2).trans tk2) P⟩))
end
section
variable{B:Bs}{σ φ:Map}{s:QT}{A:Rg}{n:Nat}{gn:Fn}{f i:String}{vs:List V}{X:QI->QI->Map->Prop}{Q:V->Map->Prop}
theorem jK.fn(hX:B.X f=some gn)(ln:vs.length=gn.params.length)(h:cG (.fn B n (gn.params.zip vs) pY) gn.body σ (.fn Q)):jK B (n+1) f vs σ Q:=λA φ s l u us hu hf hl hd hn hh S r=>az (B.fns f gn hX) λa fd body y=>(QK (y.1.symm.trans hu):RT a=u)▸by
 have F:=y.2;have ok:=v9 F.ok;have lu:=r.length.symm.trans ln
 refine F.obj.elim λo ho=>rC (NO (QO (QN (Ra _ _) (Ra _ _)) hd) (S.rel.base _ _ ho.1) ho.2 (B.lim.keeps S.rel.base) (F.qU.keeps S.rel.base) F.bd
  (yq ok.1.1 ok.1.2.1 ok.1.2.2.1 ok.1.2.2.2.1 ok.1.2.2.2.2 (wM F.nd) (lu.trans (QX _).symm) F.Dp) F.DP (λp m=>?_) (λs₁ ic=>?_) ok.2.2.1 ok.2.2.2.1 ok.2.1)
 ·exact (Su.mp (ZH m).1).elim λx z=>(rX (z.2▸ok.2.2.2.2.1 x z.1)).imp_right λk=>⟨k,(mu (.inl k)).elim λc hc=>R6.mpr ⟨c,hc⟩⟩
 ·generalize henv:Vj fd s.heap.objs.size a=env at ic⊢
  have I:=CL (X:=pY) (by refine a9 henv ?_;rfl) (by refine a9 henv ?_;rfl) (by refine a9 henv ?_;exact F.fN) (by refine a9 henv ?_;exact F.bN) (by refine a9 henv ?_;rfl) (by refine a9 henv ?_;rfl) F.ok F.nd hf hl hd hn hh S r lu ic;exact Q7 I λφ' I=>cB (h (A.deeper env) env fd.scope φ φ' s₁ body I.1 hh ok.2.2.2.2.2 I.2.1) (λfl s' P=>by cases fl<;>exact aA.after I.2.2 (CI P)) λe s' P=>P.elim
theorem jK.cls{D:kS}(hC:B.C f=some D)(hi:f++"."++"__init__"=i)(hX:B.X i=some gn)(h:∀a d,σ a=none->σ d=none->a≠d->jK B n i (.r a::vs) ((σ.put a (.ins f d)).put d (.aF [])) (λv σ=>v=.d .none/\Q (.r a) σ)):jK B (n+1) f vs σ Q:=λA φ s l u us hu hf hl hd hn hh S r=>by
 refine (QK ((B.nW f D hC).symm.trans hu):RT D.C=u)▸?_;have K:=B.cls f D hC;refine az (B.fns i gn hX) λfI fd body y=>ao (K.me "__init__" _ (hi▸y.1)) λg og z=>?_;have eg:=SV z.1;obtain ⟨hp,gs,dr,tk,os⟩:=s;refine EI Z6 (S.rel.base _ _ K.obj) (K.ns.keeps S.rel.base) z.2.1 (S.rel.base _ _ z.2.2.1) z.2.2.2 λh' x dx M=>?_;refine Q7 M.inst λo w=>w.2.2.2.elim (λq=>nomatch(M.dict o w.1).symm.trans q.1) λq=>q.elim λd' q=>?_;have ed:=QK (q.1.symm.trans (M.dict o w.1));have S':ag B ((σ.put x (.ins f dx)).put dx (.aF [])) φ ⟨h',gs,dr,tk,os⟩:=S.AU M.keeps M.newX M.newD (ed▸q.2.1.symm) ⟨o,w.1,.of w.2.1 nofun,⟨D.C,QQ (U0 _) hC,w.2.1⟩,M.dict o w.1,w.2.2.1⟩ (az (ed▸q.2.2) λod es ep v=>⟨od,v.1,.dict v.2.1,es,ep,v.2.1,v.2.2.1,v.2.2.2.1,nofun,λy hy=>absurd (v.2.2.2.2 y) hy⟩);have fx:=S.fresh M.newX;have fd':=S.fresh M.newD;refine cB (h x dx fx.1 fd'.1 (ed▸q.2.1.symm) (A.under (.builtin "type.__call__" ⟨.ref D.C::us,[]⟩)) φ ⟨h',gs,dr,tk,os⟩ l (.ref g) (.ref x::us) (eg▸y.1) ?_ hl ?_ ?_ hh S' (.cons rfl (jw (.of M.keeps) r))) (λr' s' P=>P.elim λv σ' q' rv S'' tk'=>⟨((q'.1▸rv:ak s'.heap (.d .none) r').rd:r'=.none),.r x,σ',q'.2,rfl,S'',(ax.of M.keeps).trans tk'⟩) λe s' P=>P.elim
 ·have e:(VZ "type.__call__" ⟨.ref D.C::us,[]⟩).envs=[]:=rfl
  simp only [Xh,e,pushEnvs,hf]
 ·rewrite [Zk];lia
 ·have e:(VZ "type.__call__" ⟨.ref D.C::us,[]⟩).cUnits=1:=rfl
  simp only [Xh,e];lia
end
section
variable{B:Bs}{L L1:Lm}{σ:Map}{n:Nat}{G:Fx}{ks:List X}{nm:List (QI×W)}{is:List Int}{K':bK}{ρ':aK}(hB:aJ B)
def nX:QI->QI->HP->Prop:=λ_ _ _=>False
theorem rZ{S:Ss}{ρ:Ro}{h:Hs}{K:Kw}(w:aD S (aL B n ρ nX) h K)(ro:bQ L ρ ρ')(R:av B L h σ)(ke:oU (fq B L K) K'):Ex (.fn B n ρ' pY) S σ K':=(gJ S (aL B n ρ nX) h K L ⟨ρ',[],pY⟩ σ w ⟨ro,λ_ _=>rfl,λp q σ z=>ao z λ_ _ z=>z.2.2,λ_=>rfl⟩ R).mono ke
theorem nq:∀p q σ,¬(Cx.fn B n ρ' pY).X p q σ:=λ_ _ _ h=>h
theorem IX{x:Q5×Q5}{l':aK}{A:Ro}{b:Q5}(R:av B L ⟨a4 G ks nm jY,[]⟩ σ)(e:L (.s 21)=some x)(h1:σ x.1=some (.ins "Pages" x.2))(h2:σ x.2=some (.aF l'))(all:ai (PR (Lw L (.s 21))) A l')(g:Hs.get ⟨a4 G ks nm jY,[]⟩ (.s 21)=some (.obj "Pages" A))(e2:(Hs.set (Hs.new ⟨a4 G ks nm jY,[]⟩ (.s 32) .cH) (.s 21) (.obj "Pages" (dk A "code" (.s 32))))=⟨a4 G ks nm vZ,[]⟩)(f:σ b=none):
  av B (gZ L (.s 32) (b,b)) ⟨a4 G ks nm vZ,[]⟩ ((σ.put b .cH).put x.2 (.aF (fE l' "code" (.r b)))):=by
 have fr:Hs.free ⟨a4 G ks nm jY,[]⟩ (.s 32):=rfl;have n1:x.1≠b:=λz=>nomatch(z▸h1).symm.trans f;have n2:x.2≠b:=λz=>nomatch(z▸h2).symm.trans f;have n12:x.1≠x.2:=λz=>nomatch(z▸h1).symm.trans h2;have R1:=av.new (p:=(b,b)) (c:=.cH) R fr f f (λa n=>Map.aO λz:a=b=>n (z▸f)) ⟨rfl,rfl,Map.a7⟩;have le:=R.more (p:=(b,b)) fr;have g1:(Hs.new ⟨a4 G ks nm jY,[]⟩ (.s 32) .cH).get (.s 21)=some (.obj "Pages" A):=(Hs.lL fr).trans ((QP λz=>absurd (Eq.mp W.xy z) (by decide)).trans g);refine a9 e2 ?_;refine av.put R1 g1 (le _ _ e) rfl ⟨rfl,fE l' "code" (.r b),(Map.aO n12).trans ((Map.aO n1).trans h1),Map.a7,Ap (all.imp λ_ _ h=>h.mono le.lw) ⟨(b,b),?_,rfl⟩⟩ λa _ h=>Map.aO h;exact (Ln.yes rfl).trans (QR rfl)
include hB
theorem IY(hba:B.bD "bytearray"=some (.type "bytearray")){ys:List V}(R:av B L ⟨a4 G ks nm Ax,[]⟩ σ)(r:ai (au L) [.s 21,.s 15,.d (.int 2)] ys):jK B (n+3) "Pages.__init__" ys σ λv σ'=>v=.d .none/\∃L',Le L L'/\av B L' ⟨a4 G ks nm m8,[]⟩ σ':=by
 refine .fn (hB.x 27 _ _ rfl) ((dH r).trans rfl) (cG.pre nq 7 ?_);refine rZ (K:=⟨λρ h=>ρ=pP/\h=⟨a4 G ks nm jY,[]⟩,λ_ _=>False,λ_ _=>False⟩) (I0 hB ⟨rfl,rfl⟩) (u5 (xs:=ux.params) r) R ⟨λρ σ1 z=>?_,λv σ z=>(az z λ_ _ _ z=>z.2.2.2.elim),λρ σ z=>(az z λ_ _ _ z=>z.2.2.2.elim)⟩;obtain ⟨L1,_,_,j6,R1,ro1,rfl,rfl⟩:=z;obtain ⟨y,ey,wy⟩:=ro1 "self" (.s 21) rfl;obtain ⟨x,l',e,rfl,_,h1,h2,all⟩:=R1.obj rfl wy;refine cG.ba nq ey hba h1 h2 ((dH all).symm▸(by decide+kernel:7<ah)) λb f=>?_;have R2:=IX R1 e h1 h2 all rfl rfl f;have le2:=R1.more (p:=(b,b)) (show Hs.free ⟨a4 G ks nm jY,[]⟩ (.s 32) from rfl)
 exact cG.of nq (rZ (K:=⟨λρ h=>h=⟨a4 G ks nm m8,[]⟩,λ_ _=>False,λ_ _=>False⟩) (IZ rfl) (ro1.mono le2) R2 ⟨λρ σ1 z=>by
  obtain ⟨L3,_,_,le3,R3,_,rfl⟩:=z;exact ⟨rfl,L3,(j6.trans le2).trans le3,R3⟩,λv σ z=>(az z λ_ _ _ z=>z.2.2.2.elim),λρ σ z=>(az z λ_ _ _ z=>z.2.2.2.elim)⟩)
end
theorem Bm{x:String}{w:W}{l:Ro}(h:(l.all λp=>p.2.nt)=true)(e:look l x=some w):w.nt=true:=by
 induction l with
 |nil=>exact nomatch e
 |cons p l ih=>
  have h:=Q8.mp h;have e:b9 (x==p.1) (some p.2) (look l x)=some w:=e
  cases q:x==p.1 with
  |true=>rw [q] at e;exact QK e▸h.1
  |false=>rw [q] at e;exact ih h.2 e
section
variable{B:Bs}{L L1:Lm}{σ:Map}{n:Nat}{G:Fx}{ks:List X}{nm:List (QI×W)}{is:List Int}{K':bK}{ρ':aK}(hB:aJ B)
include hB
theorem IW(hba:B.bD "bytearray"=some (.type "bytearray")){y:V}(R:av B L ⟨fH G ks 22 nm mx,[]⟩ σ)(r:au L (.s 15) y):jK B (n+4) "Pages" [y,.d (.int 2)] σ λv σ'=>∃L',Le L L'/\av B L' ⟨a4 G ks nm m8,[]⟩ σ'/\au L' (.s 21) v:=by
 obtain ⟨D,hC⟩:=hB.c 3 _ _ rfl;refine .cls hC (by rfl) (hB.x 27 _ _ rfl) λa d fa fd ne=>?_;have fr:Hs.free ⟨fH G ks 22 nm mx,[]⟩ (.s 21):=rfl;have le:=R.more (p:=(a,d)) fr;have kp:∀b,σ b≠none->((σ.put a (.ins "Pages" d)).put d (.aF [])) b=σ b:=λb nb=>(Map.aO λq:b=d=>nb (q▸fd)).trans (Map.aO λq:b=a=>nb (q▸fa));have R':=av.new (p:=(a,d)) (c:=.obj "Pages" []) R fr fa fd kp ⟨rfl,[],(Map.aO ne).trans Map.a7,Map.a7,.nil⟩;have e:gZ L (.s 21) (a,d) (.s 21)=some (a,d):=QR rfl;have k:=IY (n:=n) hB hba R' (.cons ⟨_,e,rfl⟩ (.cons (r.mono le) (.cons rfl .nil)));refine λA φ s l u us hu hf hl hd hn hh S r=>cB (k A φ s l u us hu hf hl hd hn hh S r) (λu s' P=>P.elim λv σ' q r' S' tk=>⟨v,σ',⟨q.1,?_⟩,r',S',tk⟩) λ_ _ z=>z;obtain ⟨L',le',R2⟩:=q.2;exact ⟨L',le.trans le',R2,⟨_,le' _ _ e,rfl⟩⟩
theorem KU(hba:B.bD "bytearray"=some (.type "bytearray"))(hpg:∀u,B.bD "Pages"=some u->jJ B.h u)(h63:is.length<=63){l:Q5}(R:av B L ⟨n6 is,[]⟩ σ)(el:L (.g 4)=some (l,l)):jK B (n+37) "law" [.r l] σ λv _=>v=.d (.bool true):=by
 refine .fn (hB.x 72 _ _ rfl) rfl (cG.pre nq 4 ?_);refine rZ (K:=⟨λρ h=>ρ=Bl/\∃G ks tl,FI (jF is) G ks 22/\h=⟨fH G ks 22 (eX (jF is) 11) mx,tl⟩,λ_ _=>False,λ_ _=>False⟩) (KX hB h63 λG ks tl I=>⟨rfl,G,ks,tl,I,rfl⟩) (u5 (xs:=fj.params) (ws:=[.g 4]) (.cons ⟨_,el,rfl⟩ .nil)) R ⟨λρ σ1 z=>?_,λv σ z=>(az z λ_ _ _ z=>z.2.2.2.elim),λρ σ z=>(az z λ_ _ _ z=>z.2.2.2.elim)⟩;obtain ⟨L1,_,_,j6,R1,ro1,rfl,G,ks,tl,I,rfl⟩:=z;obtain ⟨y,ey,wy⟩:=ro1 "store" (.s 15) rfl;have R1:=R1.drop λ_ _ _ _ _=>⟨rfl,rfl⟩;have wy:=au.nt rfl wy;refine cG.call rfl nq rfl hpg (cM.cons (Ev.lv ey (cM.cons (Ev.lit (cM.nil ?_)))));refine λA φ s l u us hu hf hl hd hn hh S r=>cB (IW hB hba R1 wy A φ s l u us hu hf hl hd hn hh S r) (λu s' P=>P.elim λv σ' q r' S' tk=>⟨v,σ',?_,r',S',tk⟩) λ_ _ z=>z;obtain ⟨L2,le2,R2,wv⟩:=q;have ro2:=bQ.put (x:="p") (λx w e=>(ro1 x w e).imp λy z=>⟨z.1,(au.nt (Bm rfl e) z.2).mono le2⟩) wv;exact cG.of nq (rZ (KW (K:=bO λv _=>v=.d (.bool true)) hB I h63 λS C b=>rfl) ro2 R2 ⟨λρ σ z=>az z λ_ _ _ z=>(nomatch z.2.2.2),λv σ z=>by obtain ⟨L3,w,h,_,_,r,e⟩:=z;have e:=e;subst e;exact r,λρ σ z=>az z λ_ _ _ z=>z.2.2.2.elim⟩)
end
end
section
open _root_.PySem _root_.PySem.Calls PyProof.Rows
open _root_.PySem.W (Frag codeIn codeRec_of)
theorem aC{α:Type}{a:α}{P:Prop}(e:none=some a):P:=aX e
theorem Dn{d:Data}{p}:x6 d=some p->d=.dict p.1 p.2:=d.casesOn (λe=>aC e) (λ_ e=>aC e) (λ_ _ e=>aC e) (λ_ _ e=>QK e▸rfl) (λ_ _ _ e=>aC e) (λ_ _ e=>aC e) (λ_ e=>aC e) (λ_ e=>aC e) (λ_ e=>aC e) (λ_ e=>aC e) (λe=>aC e)
theorem xH{d:Data}{p}:t7 d=some p->d=.func p:=d.casesOn (λe=>aC e) (λ_ e=>aC e) (λ_ _ e=>aC e) (λ_ _ e=>aC e) (λ_ _ _ e=>aC e) (λ_ _ e=>aC e) (λ_ e=>aC e) (λ_ e=>QK e▸rfl) (λ_ e=>aC e) (λ_ e=>aC e) (λe=>aC e)
theorem DM{d:Data}{p}:DN d=some p->d=.cls p:=d.casesOn (λe=>aC e) (λ_ e=>aC e) (λ_ _ e=>aC e) (λ_ _ e=>aC e) (λ_ _ _ e=>aC e) (λ_ _ e=>aC e) (λ_ e=>aC e) (λ_ e=>aC e) (λ_ e=>QK e▸rfl) (λ_ e=>aC e) (λe=>aC e)
theorem G3{d:Data}{p}:zO d=some p->d=.seq p.1 p.2:=d.casesOn (λe=>aC e) (λ_ e=>aC e) (λ_ _ e=>QK e▸rfl) (λ_ _ e=>aC e) (λ_ _ _ e=>aC e) (λ_ _ e=>aC e) (λ_ e=>aC e) (λ_ e=>aC e) (λ_ e=>aC e) (λ_ e=>aC e) (λe=>aC e)
theorem sf{d:QS}{p}:jX d=some p->d=.ref p:=d.casesOn (λe=>aC e) (λe=>aC e) (λe=>aC e) (λ_ e=>aC e) (λ_ _ e=>aC e) (λ_ _ e=>aC e) (λ_ _ e=>aC e) (λ_ _ e=>aC e) (λ_ e=>aC e) (λ_ e=>aC e) (λ_ e=>QK e▸rfl)
theorem BW{d:QS}{p}:tP d=some p->∃t,d=.int p t:=d.casesOn (λe=>aC e) (λe=>aC e) (λe=>aC e) (λ_ e=>aC e) (λ_ _ e=>QK e▸⟨_,rfl⟩) (λ_ _ e=>aC e) (λ_ _ e=>aC e) (λ_ _ e=>aC e) (λ_ e=>aC e) (λ_ e=>aC e) (λ_ e=>aC e)
theorem BS{d:QS}{p}:xn d=some p->∃t,d=.str p t:=d.casesOn (λe=>aC e) (λe=>aC e) (λe=>aC e) (λ_ e=>aC e) (λ_ _ e=>aC e) (λ_ _ e=>aC e) (λ_ _ e=>QK e▸⟨_,rfl⟩) (λ_ _ e=>aC e) (λ_ e=>aC e) (λ_ e=>aC e) (λ_ e=>aC e)
theorem Lk{v:QS}(e:BR v=true):∃x t,v=.str x t:=(R6.mp e).imp λ_=>BS
theorem DX{b:FuncBody}{p}:yp b=some p->b=.stmts p:=b.casesOn (λ_ e=>QK e▸rfl) λ_ e=>aC e
theorem dw{α β:Type}{o:Option α}{f:α->Option β}{b:β}(e:o.bind f=some b):∃a,o=some a/\f a=some b:=W2.mp e
theorem cP{α:Type}{p:α->Bool}{o:Option α}(e:dB p o=true):∃a,o=some a/\p a=true:=by
 cases o with
 |none=>exact ff e
 |some a=>exact ⟨a,rfl,e⟩
section
variable(K:Frag)
end
theorem yG{α β:Type}{f:α->β->Bool}:∀{l:List α}{m:List β},yH f l m=true->ai (λa b=>f a b=true) l m
 |[],[],_=>.nil
 |[],_::_,h=>ff h
 |_::_,[],h=>ff h
 |_::_,_::_,h=>.cons (ae h).1 (yG (ae h).2)
section
variable{K:Frag}{h:Rn}(X:K.In h)
include X
theorem Na{a:Q5}{p}(e:xZ K a=some p):∃o,h.get? a=some o/\o.data=.dict p.1 p.2:=(dw e).imp λo z=>⟨X _ _ z.1,Dn z.2⟩
theorem pW{a:Q5}(e:nj K a=true):h.Ns a (c9 K a):=by
 obtain ⟨p,ep,e⟩:=cP e;obtain ⟨o,h1,h2⟩:=Na X ep;exact ⟨o,p.1,p.2,h1,h2,λx hx=>Lk (Rp.mp e x (XM.mpr hx)),λn=>by unfold c9;refine aa ep ?_;rfl⟩
omit X in
theorem BV{d:QI}{p}:xo d=some p->d=.int p:=d.casesOn (λe=>aC e) (λ_ e=>aC e) (λ_ e=>QK e▸rfl) (λ_ e=>aC e) (λ_ e=>aC e) (λ_ e=>aC e) (λ_ e=>aC e)
omit X in
theorem Ll{d:QI}{p}:BU d=some p->d=.str p:=d.casesOn (λe=>aC e) (λ_ e=>aC e) (λ_ e=>aC e) (λ_ e=>QK e▸rfl) (λ_ e=>aC e) (λ_ e=>aC e) (λ_ e=>aC e)
omit X in
theorem FL{d:QI}{p}:ze d=some p->d=.tuple p:=d.casesOn (λe=>aC e) (λ_ e=>aC e) (λ_ e=>aC e) (λ_ e=>aC e) (λ_ e=>aC e) (λ_ e=>QK e▸rfl) (λ_ e=>aC e)
omit X in
theorem Bx{v:QS}{d:QI}(e:w6 v d=true):UN h v d []:=(S9.mp e).elim (λe=>(cP e).elim λi z=>(BW z.1).elim λt y=>y▸BV (Q0 z.2)▸.int _ _) λe=>(cP e).elim λi z=>(BS z.1).elim λt y=>y▸Ll (Q0 z.2)▸.str _ _
omit X in
theorem Hp{l:List QS}{m:List QI}(a:ai (λv d=>UN h v d []) l m):Sn h l m []:=a.rec .nil λr _ i=>.cons r i
theorem Hr n:∀v d,z6 K n v d=true->UN h v d []:=by
 induction n with
 |zero=>exact λv d=>Bx
 |succ n ih=>
  refine λv d e=>(S9.mp e).elim (Bx) λe=>?_;obtain ⟨l,el,e⟩:=cP e;obtain ⟨m,em,e⟩:=cP e;obtain ⟨a,ea,e1⟩:=dw el;obtain ⟨o,eo,e1⟩:=dw e1;obtain rfl:=sf ea;obtain rfl:=FL em;by_cases hc:o.cls=.type "tuple"
  ·rw [QR hc] at e1
   obtain ⟨q,eq,rfl⟩:=RH.mp e1;exact .tuple (X _ _ eo) hc (G3 eq) (Hp ((yG e).imp ih))
  ·rw [QP hc] at e1
   exact aX e1
end
section
variable{K:Frag}{h:Rn}(X:K.In h)
include X
theorem vJ{v:V}{u:QS}:sd K v u=true->ak h v u:=v.rec (λd e=>⟨(ae e).1,Hr X 20 _ _ (ae e).2⟩) (λa e=>Q0 (p:=u=RT a) e) λe=>ff e
theorem Nh{p:RU}{w:Sz}{x:QI×V}{y:TA}(r:x4 K x y=true):((YH p w).is (jj y) y.key=true/\y.hash=hashInt (jj y))/\x.1=.int (jj y)/\ak h x.2 y.val:=
 have r1:=ae r;have r2:=ae r1.1;have r3:=ae r2.1
 ⟨⟨(R6.mp r2.2).elim λi ei=>(BW ei).elim λt et=>(show jj y=i from QQ (Option.getD · 0) ei)▸et▸Yk _ _ i t,Q6.mp r1.2⟩,BV (Q0 r3.1),vJ X r3.2⟩
theorem Nf{p:RU}{w:Sz}{l:List (QI×V)}{es:List TA}(a:ai (λa b=>x4 K a b=true) l es):(∀y∈es,∃k,(YH p w).is k y.key=true/\y.hash=hashInt k)/\Pairs (YH p w) es (es.map λe=>(jj e,e.val))/\ai (λp q=>p.1=.int q.1/\ak h p.2 q.2) l (es.map λe=>(jj e,e.val)):=a.rec ⟨λ_ h=>(nomatch h),.nil,.nil⟩ λr _ ih=>have z:=Nh X r;⟨SG.mpr ⟨⟨_,z.1⟩,ih.1⟩,.cons z.1.1 rfl ih.2.1,.cons z.2 ih.2.2⟩
theorem Gh{p:RU}{w:Sz}{C:String->Option Q5}{a:Q5}{l:List (QI×V)}(e:vy K a l=true):aW p w C h a (.aj 1 l):=
 (cP e).elim λo z=>have z2:=ae z.2;have z1:=ae z2.1;have c:=ae z1.1;have c':=ae c.1;(cP z2.2).elim λq y=>have d:=ae y.2;have d':=ae d.1;have j:=Nf X (yG d'.2);have k:=Q0 c'.1
 ⟨o,X _ _ z.1,.of k (by decide),⟨k,Rz.mp c'.2,Array.isEmpty_iff.mp c.2⟩,QN (Q0 z1.2) (by decide),q.1,q.2,Dn y.1,Q6.mp d'.1,_,λy hy=>j.1 y (XM.mpr hy),j.2.1,(Ui).symm▸Q0 d.2,j.2.2⟩
end
theorem Dm{m:List Char}:∀{c:List Char},c.all (· !='.')=true->f9 (c++'.'::m)=some (c,m)
 |[],_=>rfl
 |a::c,h=>by
  obtain ⟨h1,h2⟩:=ae h;refine (?_:(if a='.' then _ else(f9 (c++'.'::m)).map _)=_);refine aa (QP (bne_iff_ne.mp h1)) (aa (Dm h2) ?_)
  rfl
section
variable(K:Frag)
noncomputable def qh(C:Q5)(p:Obj×T9):kS:=⟨p.2.name,p.2.qualname,C,p.2.ns,p.2.bases,p.2.slotNames,p.2.subclasses,p.2.collection,p.1.dict,cZ p.1 0,cZ p.1 1,cZ p.1 2,cZ p.1 3,cZ p.1 5,c9 K p.2.ns⟩
noncomputable def CK(c:String):Option kS:=if jL.contains c=true then(g9 K c).bind λC=>(fh K C).map (qh K C) else none
end
section
variable{K:Frag}{h:Rn}(X:K.In h)
theorem NR{cd:T9}{m:List QS}{ab:Bool}(e1:cd.mro=m)(e2:cd.hasDict=true)(e3:cd.abstract=ab)(e4:cd.hasDel=false):cd=⟨cd.name,cd.bases,m,cd.ns,cd.qualname,true,cd.slotNames,cd.subclasses,ab,cd.collection,false⟩:=by
 subst e1;subst e3;exact e2▸e4▸rfl
theorem AH{o:Obj}{c:QS}{d:Data}{s:Array (Option QS)}(e1:o.cls=c)(e2:o.data=d)(e3:o.slots=s):o=⟨c,o.dict,d,s⟩:=by subst e1 e2 e3;rfl
include X
theorem CM{u:QS}(e:lY K u=true):∃f o fd,u=.ref f/\h.get? f=some o/\o.cls=.type "function"/\o.data=.func fd:=by
 obtain ⟨a,ea,e⟩:=cP e;obtain ⟨o,eo,e⟩:=cP e;obtain ⟨fd,ef⟩:=R6.mp (ae e).2;exact ⟨a,o,fd,sf ea,X _ _ eo,Q0 (ae e).1,xH ef⟩
theorem sQ{C:Q5}{p:Obj×T9}{mro:List QS}{ab:Bool}{new:String}(e:fh K C=some p)(b:pU mro ab new p=true):
  h.get? C=some ⟨.type "type",p.1.dict,.cls ⟨p.2.name,p.2.bases,mro,p.2.ns,p.2.qualname,true,p.2.slotNames,p.2.subclasses,ab,p.2.collection,false⟩,#[cZ p.1 0,cZ p.1 1,cZ p.1 2,cZ p.1 3,some (.builtin new),cZ p.1 5]⟩:=by
 obtain ⟨o,eo,e⟩:=dw e;obtain ⟨cd,ec,rfl⟩:=RH.mp e;obtain ⟨b,b6⟩:=ae b;obtain ⟨b,b5⟩:=ae b;obtain ⟨b,b4⟩:=ae b;obtain ⟨b,b3⟩:=ae b;obtain ⟨b1,b2⟩:=ae b;have hd:=(DM ec).trans (QQ Data.cls (NR (Q0 b2) b3 (Q6.mp b4) (Um b5)));exact (X _ _ eo).trans (QQ some (AH (Q0 b1) hd (Q0 b6)))
end
def Qo(x:String)(s:So)(p1 p2 p3 p4:Pos):Prop:=s=.Assign [.Attribute (.Name (QJ "self") p1) (QJ x) p2] (.Name (QJ x) p3) p4
theorem Cc{x:String}{s:So}(e:xA x s=true):∃p1 p2 p3 p4,Qo x s p1 p2 p3 p4:=
 cY.inv e λl v p4 y=>a8.inv (ae y).1 λt w=>eN.inv w λo a p2 z=>(dO.inv (sc:=default) (ae z).2).1.elim λp1 o1=>(dO.inv (sc:=default) (ae y).2).1.elim λp3 v1=>
  ⟨p1,p2,p3,p4,o1.symm▸v1.symm▸(eq_of_beq (ae z).1).symm▸rfl⟩
theorem LB{l:List So}(e:Cd l=true):∃p1 p2 p3 p4 p5 p6 p7 p8,XN l=.stmts [.Assign [.Attribute (.Name "self" p1) "code" p2] (.Name "code" p3) p4,.Assign [.Attribute (.Name "self" p5) "at" p6] (.Name "at" p7) p8]:=by
 cases l with
 |nil=>exact ff e
 |cons a l=>
  exact a8.inv (P:=λl=>∃p1 p2 p3 p4 p5 p6 p7 p8,XN (a::l)=.stmts [.Assign [.Attribute (.Name "self" p1) "code" p2] (.Name "code" p3) p4,.Assign [.Attribute (.Name "self" p5) "at" p6] (.Name "at" p7) p8]) e λb e2=>jt (Cc (ae e2).1) λp1 p2 p3 p4 e3=>jt (Cc (ae e2).2) λp5 p6 p7 p8 e4=>
   ⟨p1,p2,p3,p4,p5,p6,p7,p8,QQ XN (e3▸e4▸rfl)⟩
section
variable(K:Frag)
noncomputable def AY(t:kR):gC:=⟨t.a,t.D,t.p.2.ns,t.p.2.name,t.p.2.qualname,t.p.2.bases,t.p.2.slotNames,t.p.2.subclasses,t.p.2.abstract,t.p.2.collection,t.p.1.dict,cZ t.p.1 0,cZ t.p.1 1,cZ t.p.1 2,cZ t.p.1 3,cZ t.p.1 5,t.q.1.cls,t.q.1.dict,t.q.2,t.q.1.slots,c9 K t.p.2.ns,c9 K t.q.2.ns,t.fI,t.oI,t.fd⟩
end
theorem M9{fd:UR}{a b c:QS}(e:xY fd=true):YI fd ⟨[a,b,c],[]⟩=pure [(("self":Str),a),(("code":Str),b),(("at":Str),c)]:=
 have e6:=ae e;have e5:=ae e6.1;have e4:=ae e5.1;have e3:=ae e4.1;have e2:=ae e3.1
 yq (Tz.mp e2.1) (Rz.mp e2.2) (Tz.mp e3.2) (Rz.mp e4.2) (Q0 e5.2) (by decide) rfl (Q0 e6.2)
theorem DL{K:Frag}{C:Q5}{p:Obj×T9}(e:fh K C=some p):K.lookup C=some p.1/\p.1.data=.cls p.2:=(dw e).elim λo z=>(RH.mp z.2).elim λcd y=>y.2▸⟨z.1,DM y.1⟩
theorem vM{o:Option QS}{a:Q5}(e:o.bind jX=some a):o=some (.ref a):=(dw e).elim λv z=>z.1.trans (QQ some (sf z.2))
structure Qr K(t:kR):Prop where
 a:jT K "BadImage"=some (.ref t.a)
 p:fh K t.a=some t.p
 q:fh K t.D=some t.q
 f:c9 K t.q.2.ns "__init__"=some (.ref t.fI)
 o:K.lookup t.fI=some t.oI
 d:t.oI.data=.func t.fd
theorem M8{K:Frag}{t:kR}(e:qO K=some t):Qr K t:=
 (dw e).elim λ_ z=>(dw z.2).elim λ_ y=>(dw y.2).elim λ_ x=>(dw x.2).elim λ_ v=>(dw v.2).elim λ_ u=>(dw u.2).elim λ_ r=>(RH.mp r.2).elim λ_ g=>
  g.2▸⟨vM z.1,y.1,v.1,vM u.1,r.1,xH g.1⟩
theorem M5{K:Frag}{h:Rn}(X:K.In h){t:kR}(e:qO K=some t)(x1:C5 K t=true)(x2:C4 K t=true)(x3:xY t.fd=true):u1 h (c9 K R8) (AY K t):=
 have A:=M8 e;have b7:=ae x1;have b6:=ae b7.1;have b5:=ae b6.1;have b4:=ae b5.1;have b3:=ae b4.1;have b2:=ae b3.1;have d4:=ae x2;have d3:=ae d4.1;have d2:=ae d3.1;have k2:=ae d2.1;have k1:=ae k2.1;have l2:=ae d3.2;have l1:=ae l2.1
 {obj:=sQ X A.p b2.1,ns:=pW X b2.2,sup:=(X _ _ (DL A.q).1).trans (QQ some (AH rfl (DL A.q).2 rfl)),pX:=pW X b3.2,
  no:=λn hn=>(ae (Rp.mp b4.2 n hn)).imp Rz.mp Rz.mp,Ce:=Rz.mp b5.2,nW:=A.f,fn:=X _ _ A.o,fc:=Q0 b6.2,CR:=A.d,
  bd:=(cP b7.2).elim λl z=>(DX z.1).symm▸LB z.2,kind:=⟨Q0 k1.1,Um k1.2,Um k2.2⟩,bj:=λy hy q=>ff ((Um (Rp.mp d2.2 y hy)).symm.trans (Q6.mpr q)),
  loc:=⟨Q0 l1.1,Q0 l1.2,Q0 l2.2⟩,args:=λa b c=>M9 x3,qU:=codeRec_of X d4.2,top:=A.a}
def gV(K:Frag)(w:W):V:=w.rec .d .bb (λ_=>.bb) (λ_ _=>.bb) (λk=>.r (bJ K k)) λ_=>.bb
def wV(w:W):V:=w.rec .d .bb (λ_=>.bb) (λ_ _=>.bb) (λ_=>.bb) λ_=>.bb
theorem wI{β:Type}{l:List (String×β)}{x:String}{b:β}(h:l.lookup x=some b):(x,b)∈l:=by
 obtain ⟨l₁,l₂,rfl,_⟩:=List.lookup_eq_some_iff.mp h;exact RN _ (.head _)
section
variable{K:Frag}{f:String}{u:QS}
theorem yj(h:du K f=some u):(∃c m,f9 f.toList=some (c,m)/\te K (VA c) (VA m)=some u)\/(f9 f.toList=none/\(iV.lookup f=some u\/(iV.lookup f=none/\jT K f=some u/\(lY K u||jL.contains f)=true))):=by
 unfold du at h
 cases q:f9 f.toList with
 |some p=>rw [q] at h;exact .inl ⟨_,_,rfl,h⟩
 |none=>
  rw [q] at h
  cases q1:iV.lookup f with
  |some v=>rw [q1] at h;exact .inr ⟨rfl,.inl h⟩
  |none=>
   rw [q1] at h;obtain ⟨v,ev,h⟩:=dw h;by_cases c:(lY K v||jL.contains f)=true
   ·rw [QR c] at h;exact .inr ⟨rfl,.inr ⟨rfl,ev.trans h,QK h▸c⟩⟩
   ·rw [QP c] at h;exact aX h
theorem AZ{c m:String}(h:te K c m=some u):∃C p,g9 K c=some C/\fh K C=some p/\c9 K p.2.ns (QJ m)=some u/\lY K u=true:=by
 obtain ⟨C,eC,h⟩:=dw h;obtain ⟨p,ep,h⟩:=dw h;obtain ⟨v,ev,h⟩:=dw h;by_cases c:lY K v=true
 ·rw [QR c] at h;exact ⟨C,p,eC,ep,ev.trans h,QK h▸c⟩
 ·rw [QP c] at h;exact aX h
theorem mv(e:f9 f.toList=none)(e1:iV.lookup f=some u):du K f=some u:=by
 unfold du;exact aa e (aa e1 rfl)
end
theorem OY{h:Rn}{u:QS}:u.rec false false false (λ_=>false) (λ_ _=>false) (λ_ _=>false) (λ_ _=>false) (λ_ _=>false) (λ_=>true) (λ_=>true) (λ_=>false)=true->iU h u:=u.rec (λe=>ff e) (λe=>ff e) (λe=>ff e) (λ_ e=>ff e) (λ_ _ e=>ff e) (λ_ _ e=>ff e) (λ_ _ e=>ff e) (λ_ _ e=>ff e) (λT _=>.type T) (λi _=>.bN i) (λ_ e=>ff e)
section
variable{K:Frag}{h:Rn}(X:K.In h)(F:g0 K)
include X F
omit X F in
theorem z4{c:String}{C:Q5}(e:g9 K c=some C):jT K c=some (.ref C):=vM e
def Qt(K:Frag)(c:String)(C:Q5)(p:Obj×T9):Prop:=pU [.ref C,.type "object"] false "object.__new__" p=true/\nj K p.2.ns=true/\(["__getattribute__","__getattr__","__setattr__"]++jM).all (λx=>(c9 K p.2.ns (QJ x)).isNone)=true
omit X in
theorem DJ{c:String}(i:jL.contains c=true):∃C p,g9 K c=some C/\fh K C=some p/\c.toList.all (· !='.')=true/\f9 c.toList=none/\iV.lookup c=none/\Qt K c C p:=
 have b4:=ae (Rp.mp F.cls c (Sp.mp i));have b3:=ae b4.1;have b2:=ae b3.1
 (cP b4.2).elim λC z=>(cP z.2).elim λp y=>have a3:=ae y.2;⟨C,p,z.1,y.1,b2.1,Rz.mp b2.2,Rz.mp b3.2,(ae a3.1).1,(ae a3.1).2,a3.2⟩
omit F in
theorem JY{c m:String}{u:QS}{C:Q5}{p:Obj×T9}(b1:c.toList.all (· !='.')=true)(eC:g9 K c=some C)(ep:fh K C=some p)(hu:du K (c++"."++m)=some u):∃f of,u=.ref f/\c9 K p.2.ns (QJ m)=some (.ref f)/\h.get? f=some of/\of.cls=.type "function":=by
 have es:(c++"."++m).toList=c.toList++'.'::m.toList:=by(refine aa XO (aa XO ?_);rewrite [Sh]);rfl
 have ed:=es▸Dm b1
 have hm:=by
  have:=hu;unfold du at this;rw [ed] at this;exact (XQ (s:=c)▸XQ (s:=m)▸this:te K c m=some u)
 refine ao (AZ hm) λC' p' z=>?_;obtain rfl:=QK (eC.symm.trans z.1);obtain rfl:=QK (ep.symm.trans z.2.1);exact az (CM X z.2.2.2) λf o fd y=>⟨f,o,y.1,y.1▸z.2.2.1,y.2.1,y.2.2.1⟩
theorem yU{c:String}{d:kS}(e:CK K c=some d):∃C p,g9 K c=some C/\fh K C=some p/\d=qh K C p/\pU [.ref C,.type "object"] false "object.__new__" p=true/\Eu h (du K) c d/\du K c=some (.ref C):=by
 unfold CK at e;by_cases i:jL.contains c=true
 ·rw [QR i] at e
  refine ao (DJ F i) λC p z=>?_;rw [z.1] at e;have e:(fh K C).map (qh K C)=some d:=e;rw [z.2.1] at e;obtain rfl:=QK e;have no:=λx hx=>Rz.mp (Rp.mp z.2.2.2.2.2.2.2 x hx);refine ⟨C,p,z.1,z.2.1,rfl,z.2.2.2.2.2.1,⟨sQ X z.2.1 z.2.2.2.2.2.1,pW X z.2.2.2.2.2.2.1,no _ (.head _),no _ (.tail _ (.head _)),no _ (.tail _ (.tail _ (.head _))),λx hx=>no x (RN _ (Sp.mp hx)),λm u=>JY X z.2.2.1 z.1 z.2.1⟩,?_⟩;unfold du;refine aa z.2.2.2.1 (aa z.2.2.2.2.1 (aa (z4 z.1) ?_));exact QR (S9.mpr (.inr i))
 ·rw [QP i] at e
  exact aX e
theorem N2{f:String}{u:QS}(e:du K f=some u):iU h u:=
 have fn:=λq=>az (CM X q) λf o fd z=>z.1▸.fn z.2.1 z.2.2.2
 (yj e).elim (λz=>ao z λc m z=>ao (AZ z.2) λ_ _ y=>fn y.2.2.2) λz=>z.2.elim (λq=>OY (ae (Rp.mp F.bN _ (wI q))).2) λq=>(S9.mp q.2.2).elim fn λi=>ao (DJ F i) λC p y=>
  QK ((z4 y.1).symm.trans q.2.1)▸.cls (sQ X y.2.1 y.2.2.2.2.2.1)
omit X F in
theorem L7{u:QS}{q:Q5×UR×List So}(e:Cz K u=some q):u=.ref q.1/\(∃o,K.lookup q.1=some o/\o.data=.func q.2.1)/\q.2.1.body=.stmts q.2.2:=(dw e).elim λa z=>(dw z.2).elim λo y=>(dw y.2).elim λfd x=>(RH.mp x.2).elim λb v=>v.2▸⟨sf z.1,⟨o,y.1,xH x.1⟩,DX v.1⟩
theorem CH{f:String}{fn:Fn}(e:l8.lookup f=some fn):∃a fd body,du K f=some (.ref a)/\FnAt h fn a fd body:=
 (cP (Rp.mp F.fn _ (wI e))).elim λu z=>(cP z.2).elim λq y=>have k:=L7 y.1;have b8:=ae y.2;have b7:=ae b8.1;have b6:=ae b7.1;have b5:=ae b6.1;have b4:=ae b5.1;have b3:=ae b4.1;have b2:=ae b3.1
  ⟨q.1,q.2.1,q.2.2,z.1.trans (QQ some k.1),k.2.1.imp λo w=>⟨X _ _ w.1,w.2⟩,k.2.2,b2.1,Q0 b2.2,Q0 b3.2,Q0 b4.2,Tz.mp b5.2,Q0 b6.2,codeRec_of X b7.2,Q0 b8.2⟩
omit X in
theorem Ks{mb:Str->Option QS}(hb:∀x:Str,x≠"__name__"->mb x=Va x){f:String}{u:QS}(hf:oY.contains f=true)(e:du K f=some u):c9 K R8 (QJ f)=some u\/(c9 K R8 (QJ f)=none/\mb (QJ f)=some u):=by
 obtain ⟨b,_⟩:=ae (Rp.mp F.look f (Sp.mp hf));obtain ⟨b1,b2⟩:=ae b;rcases yj e with⟨c,m,q,hm⟩|⟨q,q1|⟨q1,q2,q3⟩⟩
 ·rw [q] at b1
  exact ff b1
 ·rw [q1] at b2
  obtain ⟨⟨c1,c2⟩,c3⟩:=(ae b2).imp_left ae;exact .inr ⟨Rz.mp c1,(hb _ (Q3.mp (Um c3))).trans (Q0 c2)⟩
 ·exact .inl q2
end
section
variable(K:Frag)(l:Q5)(is:List Int)
def RK:Map:=λa=>if a=l then some (.lst (is.map λi=>.d (.int i))) else if a=bJ K 0 then some (.aj 1 (i7 0)) else if a=bJ K 1 then some (.aj 1 (i7 1)) else if a=bJ K 2 then some (.aj 1 (i7 2)) else if a=bJ K 3 then some (.aj 1 (i7 3)) else none
noncomputable def PW:List Q5:=[bJ K 0,bJ K 1,bJ K 2,bJ K 3,l]
def LK:Lm:=λw=>w.rec (λ_=>none) none (λ_=>none) (λ_ _=>none) (λk=>(aV (PW K l) k).map λa=>(a,a)) λ_=>none
def GK(x:String):Option V:=(look uZ x).map (gV K)
end
theorem QB{α:Type}{b:Bool}{x y:α}{P:α->Prop}(h1:b=true->P x)(h2:P y):P (b9 b x y):=by cases b with
 |true=>exact h1 rfl
 |false=>exact h2
theorem w0{x:String}{w:W}:∀{r:Ro},look r x=some w->(x,w)∈r
 |[],e=>aX e
 |p::r,e=>by
  have e:b9 (x==p.1) (some p.2) (look r x)=some w:=e
  cases q:x==p.1 with
  |true=>rw [q] at e;exact (Q6.mp q)▸(QK e)▸.head _
  |false=>rw [q] at e;exact .tail _ (w0 e)
theorem lookup_mem{β:Type}{x:String}{b:β}:∀{l:List (String×β)},(l.map (·.1)).Nodup->(x,b)∈l->l.lookup x=some b
 |p::l,nd,h=>by
  obtain ⟨n1,n2⟩:=Tp.mp nd;rcases QZ.mp h with rfl|h
  ·exact Vr
  ·have:=Q3.mpr λe=>n1 ((show x=p.1 from e).symm▸(SM h:x∈_):p.1∈_)
   refine aa Rx (aa this ?_);exact lookup_mem n2 h
theorem tV{α:Type}{l:List α}{k:Nat}{x:α}(h:aV l k=some x):x∈l:=UC (idx_eq.symm.trans h)
theorem CJ:(l8.map (·.1)).Nodup:=Q0 (by kernel_rfl)
theorem QE:jL.all (λc=>qW.any (·.1==c))=true:=by kernel_rfl
section
variable{K:Frag}{l:Q5}{is:List Int}
theorem nv{α:Type}{a b:α}{l:List α}(n:a∉l)(m:b∈l):b≠a:=λe=>n (e▸m)
theorem PZ(F:g0 K)(n0:∀k<4,bJ K k≠l):RK K l is l=some (.lst (is.map λi=>.d (.int i)))/\∀k<4,RK K l is (bJ K k)=some (.aj 1 (i7 k)):=by
 have d:=Q0 F.cA;obtain ⟨d1,d⟩:=Tp.mp d;obtain ⟨d2,d⟩:=Tp.mp d;obtain ⟨d3,d⟩:=Tp.mp d;refine ⟨QR rfl,λk hk=>?_⟩;refine (QP (n0 k hk)).trans ?_
 match k,hk with
 |0,_=>exact QR rfl
 |1,_=>exact (QP (nv d1 (.head _))).trans (QR rfl)
 |2,_=>exact (QP (nv d1 (.tail _ (.head _)))).trans ((QP (nv d2 (.head _))).trans (QR rfl))
 |3,_=>exact (QP (nv d1 (.tail _ (.tail _ (.head _))))).trans ((QP (nv d2 (.tail _ (.head _)))).trans ((QP (nv d3 (.head _))).trans (QR rfl)))
theorem El{P:Q5->Cell->Prop}(h1:P l (.lst (is.map λi=>.d (.int i))))(h2:∀k<4,P (bJ K k) (.aj 1 (i7 k))){a:Q5}{c:Cell}(e:RK K l is a=some c):P a c:=by
 unfold RK at e;by_cases q:a=l
 ·rw [QR q] at e;exact q▸QK e▸h1
 rw [QP q] at e;by_cases q:a=bJ K 0
 ·rw [QR q] at e;exact q▸QK e▸h2 0 (by decide)
 rw [QP q] at e;by_cases q:a=bJ K 1
 ·rw [QR q] at e;exact q▸QK e▸h2 1 (by decide)
 rw [QP q] at e;by_cases q:a=bJ K 2
 ·rw [QR q] at e;exact q▸QK e▸h2 2 (by decide)
 rw [QP q] at e;by_cases q:a=bJ K 3
 ·rw [QR q] at e;exact q▸QK e▸h2 3 (by decide)
 rw [QP q] at e;exact aX e
theorem vx(F:g0 K):∀k<4,vy K (bJ K k) (i7 k)=true/\bJ K k≠To:=λk hk=>(ae (Rp.mp F.tab k (show k∈RP 4 from UD.mpr hk))).imp_right λq=>Q3.mp (Um q)
def wG prog w K h(os:XR) mb l(is:List Int) t(X:K.In h)(F:g0 K)(et:qO K=some t)(bN:h.Ns T1 mb)(hb:∀x:Str,x≠"__name__"->mb x=Va x)
  (lim:h.NoLimit) (mods:h.get? To≠none) (ls:l≠To) (lok:aW prog w (λc=>(CK K c).map (·.C)) h l (.lst (is.map λi=>.d (.int i)))):Bs where
 prog:=prog
 w:=w
 h:=h
 an:=h
 os:=os
 X:=λf=>l8.lookup f
 C:=CK K
 G:=GK K
 R:=RK K l is
 mg:=c9 K R8
 mb:=mb
 bD:=du K
 top:=pW X F.top
 bN:=bN
 lim:=lim
 mods:=mods
 zY:=λa c e=>El (P:=λa _=>a≠To) ls (λk hk=>(vx F k hk).2) e
 zW:=λa c e=>El lok (λk hk=>Gh X (vx F k hk).1) e
 gk:=λx d e=>by
  cases d with
  |int i=>
   obtain ⟨u,eu,r⟩:=cP (Rp.mp F.NH _ (wI (Q6.mp e)));exact ⟨u,eu,vJ X r⟩
  |_=>exact ff e
 gv:=λx v e=>by
  obtain ⟨w,ew,rfl⟩:=RH.mp e;obtain ⟨u,eu,r⟩:=cP (Rp.mp F.gv _ (SM (f:=λp:String×W=>(p.1,gV K p.2)) (w0 ew)));exact ⟨u,eu,vJ X r⟩
 cls:=λc d e=>by
  obtain ⟨_,_,_,_,_,_,z,_⟩:=yU X F e;exact z
 nW:=λc d e=>by
  obtain ⟨_,_,_,_,rfl,_,_,z⟩:=yU X F e;exact z
 yi:=λf u=>N2 X F
 has:=λf hf=>R6.mp (ae (Rp.mp F.look f (Sp.mp hf))).2
 met:=λm hm=>R6.mp (Rp.mp F.met m (Sp.mp hm))
 look:=λf u=>Ks F hb
 fns:=λf fn=>CH X F
 len:=mv (by kernel_rfl) (by kernel_rfl)
 chr:=mv (by kernel_rfl) (by kernel_rfl)
 str:=mv (by kernel_rfl) (by kernel_rfl)
 tup:=mv (by kernel_rfl) (by kernel_rfl)
 vI:=mv (by kernel_rfl) (by kernel_rfl)
 Dg:=mv (by kernel_rfl) (by kernel_rfl)
 e:=AY K t
 oo:=by
  obtain ⟨t',et',z⟩:=cP F.exc;obtain rfl:=QK (et.symm.trans et');obtain ⟨⟨x1,x2⟩,x3⟩:=(ae z).imp_left ae;exact M5 X et x1 x2 x3
theorem Ew(F:g0 K){k:Nat}{f i:String}(e:aV qW k=some (f,i)):∃D,CK K f=some D:=by
 have hm:f∈jL:=SM (tV e);obtain ⟨C,eC,b⟩:=cP (ae (Rp.mp F.cls f hm)).2;obtain ⟨p,ep,b⟩:=cP b;exact ⟨qh K C p,by unfold CK;refine aa (QR (Sp.mpr hm)) (aa eC ?_);exact QQ (U0 (qh K C)) ep⟩
end
section
variable{prog:RU}{wo:Sz}{K:Frag}{h:Rn}{os:XR}{mb:Str->Option QS}{l:Q5}{is:List Int}{t:kR}{X:K.In h}{F:g0 K}{et:qO K=some t}{bN:h.Ns T1 mb}{hb:∀x:Str,x≠"__name__"->mb x=Va x}
 {lim:h.NoLimit} {mods:h.get? To≠none} {ls:l≠To} {lok:aW prog wo (λc=>(CK K c).map (·.C)) h l (.lst (is.map λi=>.d (.int i)))}
theorem JR:aJ (wG prog wo K h os mb l is t X F et bN hb lim mods ls lok):=⟨λk f gn e=>lookup_mem CJ (tV e),λk f i e=>Ew F e⟩
theorem LQ:∀p∈uZ,au (LK K l) p.2 (gV K p.2):=SG.mpr ⟨⟨_,rfl,rfl⟩,SG.mpr ⟨⟨_,rfl,rfl⟩,SG.mpr ⟨⟨_,rfl,rfl⟩,SG.mpr ⟨⟨_,rfl,rfl⟩,SG.mpr ⟨rfl,λ_ h=>nomatch h⟩⟩⟩⟩⟩
theorem zy{L:Lm}:∀{m:List (QI×W)},(m.all λp=>p.2.rec (λ_=>true) false (λ_=>false) (λ_ _=>false) (λ_=>false) λ_=>false)=true->ai (PR L) m (m.map λp=>(p.1,wV p.2))
 |[],_=>.nil
 |(k,.d x)::m,h=>.cons ⟨rfl,rfl⟩ (zy h)
 |(_,.bb)::_,h=>ff h
 |(_,.s _)::_,h=>ff h
 |(_,.f _ _)::_,h=>ff h
 |(_,.g _)::_,h=>ff h
 |(_,.t _)::_,h=>ff h
theorem Bh{L:Lm}:∀{m:List Int},ai (au L) (iW m) (m.map λi=>.d (.int i))
 |[]=>.nil
 |_::_=>.cons rfl Bh
theorem JP(n0:∀k<4,bJ K k≠l):av (wG prog wo K h os mb l is t X F et bN hb lim mods ls lok) (LK K l) ⟨n6 is,[]⟩ λ_=>none where
 cell:=λw c e=>by
  have r:=PZ (is:=is) F n0
  have tb:∀(k:Nat)(hk:k<4) m,i7 k=(m.map λp=>(p.1,wV p.2))->(m.all λp=>p.2.rec (λ_=>true) false (λ_=>false) (λ_ _=>false) (λ_=>false) λ_=>false)=true->eH (wG prog wo K h os mb l is t X F et bN hb lim mods ls lok) (LK K l) (λ_=>none) (.g k) (bJ K k,bJ K k) (.aj 1 m):=by
   intro k hk m et a;exact ⟨rfl,_,(r.2 k hk).trans (QQ (λx=>some (Cell.aj 1 x)) et),zy a⟩
  cases w with
  |s k=>
   have e:jn (aV (Q4 46 none) k)=some c:=e
   cases q:aV (Q4 46 none) k with
   |none=>rw [q] at e;exact aX e
   |some o=>rw [q,List.eq_of_mem_replicate (tV q)] at e;exact aX e
  |g k=>
   match k,e with
   |0,e=>exact ⟨_,rfl,QK e▸tb 0 (by decide) _ rfl rfl⟩
   |1,e=>exact ⟨_,rfl,QK e▸tb 1 (by decide) _ rfl rfl⟩
   |2,e=>exact ⟨_,rfl,QK e▸tb 2 (by decide) _ rfl rfl⟩
   |3,e=>exact ⟨_,rfl,QK e▸tb 3 (by decide) _ rfl rfl⟩
   |4,e=>exact ⟨_,rfl,QK e▸⟨rfl,_,r.1,Bh⟩⟩
   |k+5,e=>exact aX e
  |_=>exact aX e
 dh:=λw e=>by
  cases w with
  |g k=>
   match k,e with
   |0,e=>exact nomatch e
   |1,e=>exact nomatch e
   |2,e=>exact nomatch e
   |3,e=>exact nomatch e
   |4,e=>exact nomatch e
   |k+5,e=>rfl
  |_=>rfl
 sep:=λw w' p q e _ _ n _=>by
  cases w with
  |g k=>exact nomatch n
  |_=>exact aX e
 gv:=λx w e=>⟨Bm (by rfl) e,gV K w,QQ (U0 (gV K)) e,LQ _ (w0 e)⟩
end
theorem Lx{h:Rn}{xs:List QS}{is:List Int}(a:YE xs is):ai (ak h) (is.map λi=>.d (.int i)) xs:=a.rec .nil λ_ _{_ _} _ ih=>ai.cons ⟨rfl,.int _ _⟩ ih
theorem Jl{h:Rn}{a:Q5}{m m':Str->Option QS}(x:h.Ns a m)(y:h.Ns a m'):m=m':=by
 obtain ⟨o,es,ep,e1,e2,_,e3⟩:=x;obtain ⟨o',es',ep',f1,f2,_,f3⟩:=y;obtain rfl:=QK (e1.symm.trans f1)
 cases e2.symm.trans f2
 exact funext λn=>(e3 n).symm.trans (f3 n)
theorem EO{B:Bs}{L:Lm}{s₁:QT}{l a:Q5}{is:List Int}(hB:aJ B)(hR:av B L ⟨n6 is,[]⟩ λ_=>none)(el:L (.g 4)=some (l,l))(eh:B.h=s₁.heap)(ea:B.an=s₁.heap)(eo:s₁.os=B.os)(hg:s₁.gens=#[])(hba:B.bD "bytearray"=some (.type "bytearray"))(hpg:∀u,B.bD "Pages"=some u->jJ B.h u)(h63:is.length<=63)(cl:B.bD "law"=some (.ref a)):
  aU B.M W8 (_root_.PySem.call (.ref a) [.ref l]) (λv s'=>v=.bool true/\(∀b o,s₁.heap.get? b=some o->s'.heap.get? b=some o)/\s'.os=s₁.os/\s'.gens=#[]) (λ_ _=>False) s₁:=
 cB (KU (n:=20) hB hba hpg h63 hR el W8 (λ_=>none) s₁ [] (.ref a) [.ref l] cl rfl (λ_ h=>(nomatch h)) (by decide+kernel) (by decide+kernel) rfl ⟨⟨hg,eo,λ_ _ e=>eh▸e,λ_ _ e=>(nomatch e),λ_ _ e=>(nomatch e),ea▸.refl _⟩,λ_ _=>rfl⟩ (.cons rfl .nil))
  (λu s' P=>P.elim λv σ' q r S' tk=>⟨by subst q;obtain ⟨_,r⟩:=r;cases r;rfl,λb o e=>S'.rel.base b o (eh.symm▸e),S'.rel.os.trans eo.symm,S'.rel.gens⟩) λ_ _ z=>z
theorem KT{K:Frag}(F:g0 K){h:Rn}(X:K.In h){mg:Str->Option QS}(g:h.Ns R8 mg){a:Q5}(ha:mg (QJ "law")=some (.ref a)):du K "law"=some (.ref a):=
 az (CH X F (f:="law") (lookup_mem CJ (tV (k:=72) rfl))) λa' _ _ z=>(yj z.1).elim (λy=>ao y λ_ _ y=>nomatch(show f9 "law".toList=none by kernel_rfl).symm.trans y.1) λy=>y.2.elim (λq=>nomatch(show iV.lookup "law"=none by kernel_rfl).symm.trans q)
  λq=>z.1.trans (q.2.1.symm.trans ((congrFun (Jl (pW X F.top) g) _).trans ha))
theorem PX{K:Frag}(F:g0 K){h:Rn}(X:K.In h){l:Q5}{o:Obj}(hl:h.get? l=some o)(hc:o.cls=.type "list") k(hk:k<4):bJ K k≠l:=λe=>
 (cP (vx F k hk).1).elim λo' z=>absurd ((Q0 (ae (ae (ae (ae z.2).1).1).1).1).symm.trans ((QQ Obj.cls (QK ((X _ _ z.1).symm.trans (e▸hl)))).trans hc)) (by decide)
theorem IV{K:Frag}(F:g0 K){h:Rn}(X:K.In h) u(hu:du K "Pages"=some u):jJ h u:=(Ew F (k:=3) rfl).elim λD eD=>ao (yU X F eD) λC p z=>QK (z.2.2.2.2.2.symm.trans hu)▸.cl (sQ X z.2.1 z.2.2.2.1)
theorem EN{w:Sz}{prog:RU}{K:Frag}(F:g0 K){s₁:QT}{mg mb:Str->Option QS}(X:K.In s₁.heap)(g:s₁.heap.Ns R8 mg)(b:s₁.heap.Ns T1 mb)(nolimit:s₁.heap.NoLimit)(builtins:∀x:Str,x≠"__name__"->mb x=Va x)
  (seer:s₁.heap.NoSeer) {a:Q5} (ha:mg (QJ "law")=some (.ref a)) (hg:s₁.gens=#[]) {l:Q5} {xs:List QS} {is:List Int} (hl:s₁.heap.IsList l xs.toArray) (hI:YE xs is) (h63:is.length<=63) (hd:∃o,s₁.heap.get? l=some o/\o.dict=none):
  aU (model prog w) W8 (_root_.PySem.call (.ref a) [.ref l]) (λv s'=>v=.bool true/\(∀b o,s₁.heap.get? b=some o->s'.heap.get? b=some o)/\s'.os=s₁.os/\s'.gens=#[]) (λ_ _=>False) s₁:=by
 refine Q7 hl λol h1=>h1.2.2.elim λnl h3=>?_;refine seer.mods.elim λmm y=>az y.1 λom es ep m=>?_;refine (cP F.exc).elim λt et=>?_;have ls:l≠To:=λe=>nomatch(m.2.1.symm.trans (QQ Obj.data (QK (m.1.symm.trans (e▸h1.1))))).trans h3;have lok:aW prog w (λc=>(CK K c).map (·.C)) s₁.heap l (.lst (is.map λi=>.d (.int i))):=⟨ol,h1.1,.of h1.2.1 (by decide),h1.2.1,hd.elim λo z=>QQ Obj.dict (QK (h1.1.symm.trans z.1))▸z.2,_,_,h3,Lx hI⟩;exact EO (JR (X:=X) (F:=F) (et:=et.1) (bN:=b) (hb:=builtins) (lim:=nolimit) (mods:=λe=>nomatch e.symm.trans m.1) (ls:=ls) (lok:=lok)) (JP (PX F X h1.1 h1.2.1)) rfl rfl rfl rfl hg (show du K "bytearray"=some (.type "bytearray") from mv (by kernel_rfl) (by kernel_rfl)) (IV F X) h63 (KT F X g ha)
theorem walk_law:Eg:=λw prog K s₁ mg mb a l xs is F X g b nl bu se ha hg hl hI h63 hd=>EN F X g b nl bu se ha hg hl hI h63 hd
end
end Mine.Internal
end
theorem PySem.Challenge.cw_xw0078_01_holds : PySem.Challenge.rw_xw0078_01.Holds :=
  Mine.head ⟨Mine.Internal.walk_law⟩
