import PyProof.Rows.All
import Wide.All
import OpenK.AllK
import Wide.FinOn
import Lean
import PySem.Challenge.RW_ot0039_01
set_option compiler.extract_closed false
set_option tactic.hygienic false
set_option maxRecDepth 100000
set_option genSizeOf false
set_option genInjectivity false
set_option linter.all false
set_option maxHeartbeats 8000000
set_option Elab.async false
namespace Mine
open Option renaming some->KX,none->Sd,casesOn->Sl,none->S5,map->Uo,bind_some->VZ,toList_some->XC,isSome->YR,isNone->YS
open _root_ renaming List->R5,congrArg->R6,of_decide_eq_true->Sa,Nat->Sf,Option->Sh,Bool->Sq,if_pos->Sv,decide_eq_true->Sz,if_neg->SI,Int->SK,Array->Td,absurd->TL,Unit->TZ,False->Ue,decide_eq_false->Un,cond->UI,congrFun->U0,beq_self_eq_true->U1,or_false->WK,beq_iff_eq->WM,String->WO,Decidable->X7,True->Y2,DecidableEq->Zf,decide_false->aag
open PySem renaming wpAny_bind->R7,Value->Se,wpAny_pure->Sg,DictEntry->Sk,wpAny->Sm,Shared->Sn,Expr->SE,Addr->SJ,Str->SS,wpAny_holding->SY,wpAny_items_cons->Tc,wpAny_Call_Name_kw->Th,builtinLookup_eq_fast->Ti,model->Tj,eval->TN,wpAny_items_nil->To,wpAny_truthy_bool->Tp,NameKind->Tq,Heap->Tu,mainGlobals->TA,wpAny_Name->TK,intKind->TX,wpAny_mono->TS,wpAny_standAt->TU,Stmt->T1,wpAny_loadPart_at->T2,typeLookup_type->T4,isTrue->Wi,sizeLine_eq->T6,SetTable->Uk,codeAny->Um,wpAny_forIn_list->Uu,wpAny_execs_cons->Uv,wpAny_call_entry->Uw,compareOp->Ux,checkBuiltinCall->Uy,wpAny_rule->Uz,sysModules->UA,wpAny_newObj_type->UG,excClassObj->UH,wpAny_call->UL,wpAny_assignInOrder_more->UM,rawInt->UN,plainObj_wpAny_Assign_Attribute->UR,wpAny_isInstance->UW,wpAny_Expr_any->UX,starEach->UY,sizeLine->UZ,intKind_is->Va,exec->Ve,binaryOp->Vf,Around->Vj,wpAny_Assign_Name->Vk,wpAny_field->Vs,isSubtype_type->Vt,Pos->Vu,wpAny_askSetting->Vx,wpAny_isSubtype_exc->VC,Comprehension->VI,Builtin->VN,wpAny_List->VO,call_meets->VP,wpAny_callSpecial?_slot->VW,wpAny_Assign_Subscript->V7,getMethod_builtin->V8,Operator->V9,FuncData->Wa,typeLookup->Wh,entryFor_of_tree->Wj,Program->Wm,wpAny_execs_nil->Wt,letOwnedTupleGo->Wu,call->Wv,backTo->Ww,wpAny_typeOf->WB,relabel->WC,Arguments->WI,pyIter->WJ,cLine->WL,assignEach->WN,wpAny_binaryOp_repeat_ref->WV,Flow->WX,wpAny_assign_Name->WY,Scope->Xk,Obj->Xl,typeIs_int->Xs,getItem->Xv,builtinsNs->Xw,UnaryOp->Xx,Env->Xz,wpAny_specialOf->XA,wpAny_isTrue_Compare1->XF,int___rmul___int_list->XG,wpAny_seqItems->XQ,wpAny_letTemporaryGo->XR,wpAny_bindName->XS,codeAny_call_builtin->XW,CmpOp->X0,BoolOp->X1,valueAt->X2,storeName->X3,setItem->X4,execs->Yc,World->Yd,wpAny_pyIter_tuple->Yk,wpAny_getItem_list->Yl,entryOfKey->Yn,assign->Yo,arm_eval_Attribute->Yp,wpAny_pyIter_list->YE,standAt->YG,entryFor->YH,Const->YP,wpAny_pyIter_zip->YW,wpAny_lookBehind->YX,wpAny_Dict_empty->YY,pastItsLine_dict->Y0,getMethod->Y1,wpAny_BinOp->Za,unpackItems->Zb,noFill_list_mul->Zg,codeAny_of_tree->Zh,codeAny_builtin->Zi,strKind_is->Zx,stored->Zy,newFunctionEnv->Zz,closureFor->ZD,callWith->ZE,Result->ZG,wpAt_of_wpAny->ZK,wpAny_comprehension_free->ZP,signature?_of->ZQ,eval_ListComp->ZR,assignInOrder->ZT,wpAny_unpackItems_tuple->Z1,scanBound->Z2,atKey->Z3,pyNext->aab,getAttr->aae,codeAny_mono->aah,callType_new->aai,bootBuiltins->aaj,argsOk->aak,PyData->aao,wpAt_bind->aay,wpAny_of_eq->aaF,wpAny_loadName_local->aaG,wpAny_alloc->aaH,wpAny_Tuple->aaI,repeat_list->aaK,loadName->aaM,compPost->aaN,Reads->aaP,IsRangeIter->aaV,FuncBody->aaX,wpAny_loadName_cell->aa5,wpAny_isTrue_BoolOp->aa6,wpAny_binaryOp_same->aa7,strKind->aa9,intKind->aba,wpAny_setField_rec->abh,reduceHash->abj,fillsNumberSlot_of->abm,IsPair->abt
open Bool renaming true->R8,false->Sj,false_ne_true->SR,casesOn->Tb,and_eq_true->Ta,not_eq_true->TF,not_eq_true'->Vb,noConfusion->V6,bne_false->Ws,false_or->WH,or_eq_true->Xe,and_false->Xr,bne_true->XM,or_true->X8,true_or->Zu,false_eq_true->Z8,true_and->abv
open Option.some renaming inj->R9
open Nat renaming lt_of_le_of_lt->Sb,lt_of_lt_of_le->Si,le_trans->Ss,lt_trans->Sw,le_of_eq->SA,le_refl->SN,le_of_lt->SQ,zero_add->SX,casesOn->SW,le_add_right->S0,add_le_add_left->S2,add_le_add_right->S6,le_succ->Tn,add_right_comm->TP,ne_of_lt->Tz,mul_le_mul_left->TH,zero_le->Ui,add_assoc->Uh,lt_succ_self->T5,add_le_add->UO,le_add_left->Ub,le_of_lt_succ->Uj,lt_succ_of_lt->UD,le_succ_of_le->Vc,add_sub_cancel'->UJ,succ_pos->VR,lt_of_lt_of_eq->VD,add_comm->VT,min_eq_left->U6,le_antisymm->U7,rec->VA,lt_add_of_pos_right->VG,add_lt_add->VS,lt_of_sub_eq_succ->V5,succ_le_succ->WW,sub_add_cancel->Wx,succ_add_eq_add_succ->WR,succ_lt_succ->Yt,sub_le->XY,le_of_succ_le_succ->Xa,le_sub_one_of_lt->Xy,add_lt_add_left->XJ,lt_irrefl->XN,ne_of_gt->Ya,succ_ne_self->Ys,min_le_right->Yu,noConfusion->YL,mul_lt_mul_of_pos_right->YT,add_lt_add_of_lt_of_le->Y4,exists_eq_add_of_le'->Zj,le_mul_of_pos_right->Zn,le_add_right_of_le->ZH,not_succ_le_zero->ZV,sub_lt_sub_left->Z4,mod_lt->aap,zero_lt_of_lt->aaA,sub_sub_right->aaB,lt_of_succ_lt->abA,sub_sub_self->aaQ,min_eq_right->aaR,div_le_self->abd,sub_add_eq->abn
open List renaming range->So,length_map->Sr,casesOn->Sp,length_append->Sy,mem_of_getElem?->SM,append_nil->SP,getElem?_map->S1,map_append->S3,getElem?_eq_getElem->S4,not_mem_nil->S7,rec->S8,replicate->S9,size_toArray->Te,append_assoc->Tf,Perm->Tr,contains_iff_mem->Tt,flatMap_cons->TJ,mem_singleton->Ud,flatMap_nil->TQ,getElem?_append_left->TV,getElem?_eq_none->TY,getElem?_set_ne->T3,map_cons->T7,getElem?_set_self->T8,nil_append->Ua,mem_append_right->V1,mem_cons->Ug,length_cons->TC,getD_eq_getElem?_getD->Ur,take_append_drop->Ut,length_set->UC,map_map->UT,filter_cons->UK,contains_cons->UU,mem_append->U3,nodup_nil->Vg,getElem?_range->Vr,range_succ->Vz,mem_cons_self->VB,take_of_length_le->VL,foldl_append->VM,getElem?_toArray->V2,mem_append_left->Wc,map_congr_left->Wk,filterMap_cons->Wl,length_range->X5,any_cons->WG,length_drop->WS,flatMap_def->WT,filter_cons_of_neg->WU,set_set->WZ,forIn_cons->Xb,length_filter_le->Xg,mem_cons_of_mem->Xo,length->Xp,flatMap_append->XE,getElem?_inj->X6,take_length->Yg,length_take->Yh,getElem_mem->Yi,length_nil->Wg,take_succ->YU,drop_eq_getElem_cons->Y5,all_cons->Ze,getElem?_cons_succ->Zk,filter_cons_of_pos->Zl,map_nil->Zo,getElem_cons_drop->Zp,find?_cons_of_pos->Zq,find?_cons_of_neg->Zr,drop_eq_nil_of_le->Zs,all_map->Zt,length_replicate->ZI,mem_of_mem_take->ZL,length_dropLast->ZM,dropLast_concat->ZN,mem_map_of_mem->ZW,filterMap_map->Z5,take_sublist->aaq,take_add_one->aar,nodup_append->aas,zipIdx_cons->aaC,append_cons->aaD,all_eq_true->Yj,zip_append->aaS,mem_filter->aaT,find?_cons->aaU,set_comm->abo,map_take->abp,findIdx?->abq,dropLast->abr
open PySem.Heap renaming get?_push_of_some->Su,get?_push_size->SD,SameBut->SO,lt_size->TR,size_push->T9,get?_update_self->U9,get?_none_of_le->Xq,get?_update_ne->Z0,get?_push_at->aav,MadeExcOf->abf
open PySem.Expr renaming casesOn->SH
open PySem.SetTable.layClean renaming free->SU
open PySem.Stmt renaming casesOn->Tv
open PySem.PyData renaming keyHash->Tw,eqv->VY,depthAll->Yf,canLayAll0->ZU,strOk->abb
open PySem.W renaming findIn->TB,hasDictIn->VX,Frag->Wz,looks_findIn->WD,specialIn->Xj,mg_none_of->Xu,plainGet_of->XT,plainGet->XU,nsIn->Ym,plainOver->YZ,keepIn->ZA,handedIn->ZC,takesIn->Z9,takerIn->aaa,lookIn->aac,handedOut_of->aad,findCls->aaf,ownOf->aaz,lookIn_dict->aaL,notCls->abk
open Array renaming length_toList->TG,forIn_toList->US,toList_push->WA,getElem?_toList->Xf,getD_eq_getD_getElem?->YD,toList->Zm
open PySem.Builtin.Tuple renaming tupleHashOf->TM,tupleItemsOf->XK
open PySem.SetTable renaming leap->Uc,eraseAt->Ul,grown->U8,sizeAbove->Vq,bits->VQ,runEnd->WQ,turns->Ye,fits->YA,laid->aal,fill->aam
open Ne renaming symm->Up
open PySem.Heap.SameBut renaming refl->Uq,update->VV
open PySem.F renaming excBase_Exception->Us,type_list_append->Vn,slot_list_append->Vo,plainAttrs_list->Vw,slot_int_rmul->VH,slot_tuple_iterator_next->XH,args_list_mul_2->Yy,args_int_rmul_2->Yz,slot_list_extend->YI,entry_list_mul->YN,entry_int_rmul->YO,store_Exception->YQ,slot_list_mul->Y7,slot_dict_get->Y8,fills_int_mul->Y9,slot_zip_next->Zc,slot_list_pop->Zd,slot_tuple_hash->abg,entry_dict_get->abu
open PySem.Calls renaming evalArgs_plain->UB,Name_function_global->XZ
open Int renaming toNat_natCast->UE,eq_ofNat_of_zero_le->UP,lt_trans->Vp,natCast_nonneg->VE,lt_of_lt_of_le->VF,fmod_nonneg_of_pos->VU,fmod->We,zero_add->Wq,le_of_lt->Wr,fmod_lt_of_pos->Wy,le_trans->Yb,fdiv->Y6,toNat_lt->ZJ,le_of_lt_add_one->ZZ,toNat_of_nonneg->Z6,lt_of_le_of_lt->aau,toNat->aaW
open ForInStep renaming yield->UQ
open PySem.Arg renaming arg->U2
open PySem.Const renaming casesOn->U4
open PySem.Builtin.Slice renaming slicePlaces->U5,sliceAdjust->Wb
open PySem.Builtin.List renaming listTooLong->Vd,listFitsIndex->XP
open PySem.Value.ref renaming inj->Vh
open PySem.Value renaming ref->Vi,casesOn->V3,builtin->V4,int->Xm
open PySem.NameKind renaming free->Vl,cell->YC
open Eq renaming trans->Vm,rec->V0,symm->Wf
open PySem.AutoListH renaming list___mul___list_int_3->Vv
open PySem.Within renaming cons->Vy,nil->XB
open Prod renaming fst->VJ,casesOn->Wn,snd->Xn
open PySem.Data renaming casesOn->Wo
open PySem.Builtin.Frozenset renaming differenceUpdate->WE,unchanged->Xi,updateFrom->aaY,sizeOf->aaZ,oneOther->aa0,isAnySet->aa1,difference->aa2,copyOf->aa3,baseOf->aa4
open PyProof.Rows renaming Assign_Tuple_swapped->W9,Assign_Tuple->XX,Subscript_->Yq,len_list->Yr,tail_any->YF,lt_int->YJ,le_int->YK,evalArgs_nil3->ZS,slot_tuple_getitem->abi
open List.Pairwise renaming map->Xc,of_map->Yw
open PyProof.Rows.F renaming plain_set_update_loop->Xd,entry_set_update_loop->ZO
open PySem.Data.dict renaming inj->Xh
open PySem.pickOrder renaming go->Xt
open Nat.succ renaming inj->XD
open PySem.Code renaming quiet_builtin->XO
open PySem.Obj renaming data->X9,casesOn->YB,mapSeq->Y3
open List.cons renaming inj->Yv
open Int.ofNat renaming inj->Yx
open False renaming elim->YM
open PySem.Builtin.Int renaming intBits->YV
open PySem.Around renaming under_plainId->Zv
open And renaming intro->Zw
open PySem.Str renaming ofString->ZF
open List.Perm renaming swap->ZX,cons->ZY
open PySem.Expr.Name renaming inj->Z7
open PySem.ReadsAll renaming cons->aan,nil->aax
open PyProof.Rows.IntsAre renaming length->aat
open PySem.Shared renaming casesOn->aaw
open PySem.Builtin.SmallTypes renaming nextOf->aaE
open Prod.mk renaming inj->abc
open PySem.W.Looks renaming of_pure->abe
noncomputable section
open PySem PySem.W PySem.Spec PySem.Calls PyProof.Rows
inductive AV where
 |none
 |bool (b:Sq)
 |int (i:SK)
 |str (l:R5 Sf)
 |tup (l:R5 AV)
 |lst (l:R5 AV)
 |dT (l:R5 (R5 AV×AV))
 |dI (l:R5 (SK×AV))
 |dS (l:R5 (R5 Sf×AV))
 |aQ (l:R5 SK)
 |inst (c:Sf) (l:R5 (Sf×AV))
 |ref (n:Sf)
 |fn (f:Sf)
 |cls (c:Sf)
 |fJ (f:Sf) (n:Sf)
 |m9 (k:R5 Sf)
 |lj
inductive aF where
 |out
 |fl
 |fc (i:Sf)
 |fs (i:Sf)
 |hd (n:Sf)
 |ha (n x:Sf)
 |hk (n x k:Sf)
 |bx (n:Sf)
 |tab
noncomputable def aF.bC:aF->Sq
 |.fl|.fc _|.fs _=>R8
 |_=>Sj
structure bf where
 prog:Wm
 w:Yd
 bK:Sf->Se
 cls:Sf->SJ
 nm:Sf->SS
 xc:SJ
 tc:SJ
structure Wd where
 h:Tu
 ah:SJ->Sh aF
 ρ:Sf->SJ
 N:Sf
structure Wd.Fe(W W':Wd):Prop where
 keep:∀a o,W.h.get? a=KX o->W.ah a=Sd->W'.h.get? a=KX o
 free:∀a o,W.h.get? a=KX o->W.ah a=Sd->W'.ah a=Sd
 dq:∀n,n<W.N->W'.ρ n=W.ρ n
 N:W.N<=W'.N
structure Wd.Le(W W':Wd):Prop extends Wd.Fe W W' where
 out:∀a o,W.h.get? a=KX o->W.ah a=KX .out->W'.ah a=KX .out
 outk:∀a o,W.h.get? a=KX o->W.ah a=KX .out->W'.h.get? a=KX o
theorem Wd.Fe.refl(W:Wd):W.Fe W:=⟨λu0 u1 e u2=>e,λu0 u1 u2 e=>e,λu0 u1=>rfl,SN _⟩
theorem Wd.Fe.trans{W W' W'':Wd}(x:W.Fe W')(y:W'.Fe W''):W.Fe W'':=
 ⟨λa o e l=>y.keep a o (x.keep a o e l)<|x.free a o e l,λa o e l=>y.free a o (x.keep a o e l)<|x.free a o e l,
  λn hn=>(y.dq n<|Si hn x.N).trans<|x.dq n hn,Ss x.N y.N⟩
theorem Wd.Le.refl(W:Wd):W.Le W:=⟨.refl W,λu0 u1 u2 e=>e,λu0 u1 e u2=>e⟩
theorem Wd.Le.trans{W W' W'':Wd}(x:W.Le W')(y:W'.Le W''):W.Le W'':=
 ⟨x.toFe.trans y.toFe,λa o e l=>y.out a o (x.outk a o e l)<|x.out a o e l,λa o e l=>y.outk a o (x.outk a o e l)<|x.out a o e l⟩
noncomputable abbrev aE(vs:R5 Se)(n:Sf):Obj:={cls:=.type "list",data:=.seq vs.toArray n}
noncomputable abbrev cE(vs:R5 Se)(n:Sf):Obj:={cls:=.type "tuple",data:=.seq vs.toArray n}
noncomputable abbrev aI(es:R5 Sk)(n:Sf):Obj:={cls:=.type "dict",data:=.dict es.toArray n}
noncomputable abbrev eE(C d:SJ)(sl:Td (Sh Se)):Obj:={cls:=.ref C,dict:=KX d,data:=.plain,slots:=sl}
noncomputable def qT(l:R5 Sf):Bool:=l.all λc=>Nat.blt c 55296
noncomputable abbrev cu(es:Td (SK×Se))(ep:Sf)(t:Uk):Obj:={cls:=.type "frozenset",data:=.set es ep t}
noncomputable def cW(e:SK×Se):Int:=match e.2 with
 |.int k _=>k
 |_=>0
structure dY(prog:Wm)(w:Yd)(es:Td (SK×Se))(t:Uk):Prop where
 el:∀e∈es.toList,∃k t,e=((TX prog w).hash k,.int k t)
 nd:(es.toList.map cW).Nodup
 fits:t.fits es.size=R8
inductive iZ(S:bf)(h:Tu)(a:SJ)(l:R5 SK):Prop
 |mk (es:Td (SK×Se)) (ep:Sf) (t:Uk):h.get? a=KX (cu es ep t)->dY S.prog S.w es t->(∀k,k∈es.toList.map cW↔k∈l)->iZ S h a l
section
theorem eL{p q:Prop}(h:p)(n:p->q):q:=n h
theorem ql{r p q:Prop}(_:r)(h:p)(n:p->q):q:=n h
noncomputable def AV.cM{β:Type}(a:AV)(d:β)(f:β):β:=by
 induction a using AV.casesOn with
 |none=>exact f
 |_=>exact d
noncomputable def AV.bR{β:Type}(a:AV)(d:β)(f:Sq->β):β:=by
 induction a using AV.casesOn with
 |bool x=>exact f x
 |_=>exact d
theorem AV.kP{β:Type}{P:AV->Prop}{d y f:β}(k:f=y->P .none):∀{a:AV},a.cM d f=y->(d=y->P a)->P a:=by intro a;induction a using AV.casesOn<;>first|exact @eL (d=y) _|exact λh O=>k h
@[elab_as_elim] theorem AV.gM {β:Type} {P:AV->Prop} {d y:β} {f:Sq->β} (k:∀x,f x=y->P (.bool x)):∀{a:AV},a.bR d f=y->(d=y->P a)->P a:=by intro a;induction a using AV.casesOn<;>first|exact @eL (d=y) _|exact λh O=>k _ h
noncomputable def AV.bt{β:Type}(a:AV)(d:β)(f:SK->β):β:=by
 induction a using AV.casesOn with
 |int x=>exact f x
 |_=>exact d
@[elab_as_elim] theorem AV.dw {β:Type} {P:AV->Prop} {d y:β} {f:SK->β} (k:∀x,f x=y->P (.int x)):∀{a:AV},a.bt d f=y->(d=y->P a)->P a:=by intro a;induction a using AV.casesOn<;>first|exact @eL (d=y) _|exact λh O=>k _ h
noncomputable def AV.onStr{β:Type}(a:AV)(d:β)(f:R5 Sf->β):β:=by
 induction a using AV.casesOn with
 |str x=>exact f x
 |_=>exact d
@[elab_as_elim] theorem AV.i9 {β:Type} {P:AV->Prop} {d y:β} {f:R5 Sf->β} (k:∀x,f x=y->P (.str x)):∀{a:AV},a.onStr d f=y->(d=y->P a)->P a:=by intro a;induction a using AV.casesOn<;>first|exact @eL (d=y) _|exact λh O=>k _ h
noncomputable def AV.cQ{β:Type}(a:AV)(d:β)(f:R5 AV->β):β:=by
 induction a using AV.casesOn with
 |tup x=>exact f x
 |_=>exact d
@[elab_as_elim] theorem AV.dG {β:Type} {P:AV->Prop} {d y:β} {f:R5 AV->β} (k:∀x,f x=y->P (.tup x)):∀{a:AV},a.cQ d f=y->(d=y->P a)->P a:=by intro a;induction a using AV.casesOn<;>first|exact @eL (d=y) _|exact λh O=>k _ h
noncomputable def AV.cN{β:Type}(a:AV)(d:β)(f:R5 AV->β):β:=by
 induction a using AV.casesOn with
 |lst x=>exact f x
 |_=>exact d
@[elab_as_elim] theorem AV.dH {β:Type} {P:AV->Prop} {d y:β} {f:R5 AV->β} (k:∀x,f x=y->P (.lst x)):∀{a:AV},a.cN d f=y->(d=y->P a)->P a:=by intro a;induction a using AV.casesOn<;>first|exact @eL (d=y) _|exact λh O=>k _ h
noncomputable def AV.pb{β:Type}(a:AV)(d:β)(f:R5 (R5 AV×AV)->β):β:=by
 induction a using AV.casesOn with
 |dT x=>exact f x
 |_=>exact d
@[elab_as_elim] theorem AV.IQ {β:Type} {P:AV->Prop} {d y:β} {f:R5 (R5 AV×AV)->β} (k:∀x,f x=y->P (.dT x)):∀{a:AV},a.pb d f=y->(d=y->P a)->P a:=by intro a;induction a using AV.casesOn<;>first|exact @eL (d=y) _|exact λh O=>k _ h
noncomputable def AV.yF{β:Type}(a:AV)(d:β)(f:R5 (SK×AV)->β):β:=by
 induction a using AV.casesOn with
 |dI x=>exact f x
 |_=>exact d
noncomputable def AV.yh{β:Type}(a:AV)(d:β)(f:R5 (R5 Sf×AV)->β):β:=by
 induction a using AV.casesOn with
 |dS x=>exact f x
 |_=>exact d
noncomputable def AV.jS{β:Type}(a:AV)(d:β)(f:R5 SK->β):β:=by
 induction a using AV.casesOn with
 |aQ x=>exact f x
 |_=>exact d
@[elab_as_elim] theorem AV.jk {β:Type} {P:AV->Prop} {d y:β} {f:R5 SK->β} (k:∀x,f x=y->P (.aQ x)):∀{a:AV},a.jS d f=y->(d=y->P a)->P a:=by intro a;induction a using AV.casesOn<;>first|exact @eL (d=y) _|exact λh O=>k _ h
noncomputable def AV.eC{β:Type}(a:AV)(d:β)(f:Sf->R5 (Sf×AV)->β):β:=by
 induction a using AV.casesOn with
 |inst x y=>exact f x y
 |_=>exact d
@[elab_as_elim] theorem AV.gN {β:Type} {P:AV->Prop} {d y:β} {f:Sf->R5 (Sf×AV)->β} (k:∀x w,f x w=y->P (.inst x w)):∀{a:AV},a.eC d f=y->(d=y->P a)->P a:=by intro a;induction a using AV.casesOn<;>first|exact @eL (d=y) _|exact λh O=>k _ _ h
noncomputable def AV.ie{β:Type}(a:AV)(d:β)(f:Sf->β):β:=by
 induction a using AV.casesOn with
 |ref x=>exact f x
 |_=>exact d
@[elab_as_elim] theorem AV.gS {β:Type} {P:AV->Prop} {d y:β} {f:Sf->β} (k:∀x,f x=y->P (.ref x)):∀{a:AV},a.ie d f=y->(d=y->P a)->P a:=by intro a;induction a using AV.casesOn<;>first|exact @eL (d=y) _|exact λh O=>k _ h
noncomputable def AV.wM{β:Type}(a:AV)(d:β)(f:Sf->β):β:=by
 induction a using AV.casesOn with
 |fn x=>exact f x
 |_=>exact d
@[elab_as_elim] theorem AV.qZ {β:Type} {P:AV->Prop} {d y:β} {f:Sf->β} (k:∀x,f x=y->P (.fn x)):∀{a:AV},a.wM d f=y->(d=y->P a)->P a:=by intro a;induction a using AV.casesOn<;>first|exact @eL (d=y) _|exact λh O=>k _ h
noncomputable def AV.A2{β:Type}(a:AV)(d:β)(f:Sf->β):β:=by
 induction a using AV.casesOn with
 |cls x=>exact f x
 |_=>exact d
@[elab_as_elim] theorem AV.wW {β:Type} {P:AV->Prop} {d y:β} {f:Sf->β} (k:∀x,f x=y->P (.cls x)):∀{a:AV},a.A2 d f=y->(d=y->P a)->P a:=by intro a;induction a using AV.casesOn<;>first|exact @eL (d=y) _|exact λh O=>k _ h
noncomputable def AV.Cp{β:Type}(a:AV)(d:β)(f:Sf->Sf->β):β:=by
 induction a using AV.casesOn with
 |fJ x y=>exact f x y
 |_=>exact d
@[elab_as_elim] theorem AV.DM {β:Type} {P:AV->Prop} {d y:β} {f:Sf->Sf->β} (k:∀x w,f x w=y->P (.fJ x w)):∀{a:AV},a.Cp d f=y->(d=y->P a)->P a:=by intro a;induction a using AV.casesOn<;>first|exact @eL (d=y) _|exact λh O=>k _ _ h
noncomputable def AV.wq{β:Type}(a:AV)(d:β)(f:R5 Sf->β):β:=by
 induction a using AV.casesOn with
 |m9 x=>exact f x
 |_=>exact d
noncomputable def AV.Bk{β:Type}(a:AV)(d:β)(f:β):β:=by
 induction a using AV.casesOn with
 |lj=>exact f
 |_=>exact d
def Ai(a:AV)(t:R5 AV->Sq):Bool:=a.cQ (a.bt (a.onStr Sj qT) λu0=>R8) t
def NL(d:Sf):R5 AV->Bool:=VA (λu0=>Sj) (λu0 ih l=>l.all λa=>Ai a ih) d
def AV.key(d:Sf)(a:AV):Bool:=Ai a<|NL d
def yu(S:bf)(a:AV)(t:R5 AV->SK):Int:=a.cQ (a.bt (a.onStr 0 λl=>(strKind S.prog S.w).hash ⟨l.toArray⟩) λi=>(TX S.prog S.w).hash i) t
def NT(S:bf)(d:Sf):R5 AV->Int:=VA (λu0=>0) (λu0 ih l=>abj<|TM<|l.map λa=>yu S a ih) d
def AV.hash(S:bf)(d:Sf)(a:AV):Int:=yu S a<|NT S d
end
inductive dg(W:Wd)(mk:R5 Se->Sf->Xl)(R:R5 Se->Prop):Se->Prop
 |mk {a:SJ} {vs:R5 Se} {n:Sf}:W.h.get? a=KX (mk vs n)->W.ah a=Sd->R vs->dg W mk R (.ref a)
inductive jg(W:Wd)(nd:Prop)(R:R5 Sk->Prop):Se->Prop
 |mk {a:SJ} {es:R5 Sk} {n:Sf}:W.h.get? a=KX (aI es n)->W.ah a=Sd->R es->nd->(a==UA)=Sj->jg W nd R (.ref a)
inductive dp(W:Wd)(nd:Prop)(R:R5 Sk->Prop):Se->Prop
 |mk {a:SJ} {es:R5 Sk} {n:Sf}:W.h.get? a=KX (aI es n)->W.ah a=Sd->R es->nd->dp W nd R (.ref a)
inductive i7(i:SK):Se->Prop
 |mk {t:Tok}:i7 i (.int i t)
inductive iW(l:R5 Sf):Se->Prop
 |mk {x:SS} {t:Tok}:x.cps.toList=l->iW l (.str x t)
inductive jf(S:bf)(W:Wd)(l:R5 SK):Se->Prop
 |mk {a:SJ}:iZ S W.h a l->W.ah a=Sd->jf S W l (.ref a)
inductive eY(S:bf)(W:Wd)(c:Sf)(R:R5 Sk->Prop):Se->Prop
 |mk {a d:SJ} {sl:Td (Sh Se)} {es:R5 Sk} {n:Sf}:W.h.get? a=KX (eE (S.cls c) d sl)->W.ah a=Sd->W.h.get? d=KX (aI es n)->W.ah d=Sd->R es->eY S W c R (.ref a)
inductive gu(W:Wd)(n:Sf):Se->Prop
 |mk:n<W.N->gu W n (.ref<|W.ρ n)
inductive eX(S:bf)(W:Wd)(f n:Sf):Se->Prop
 |mk {a:SJ} {sl:Td (Sh Se)}:W.h.get? a=KX {cls:=.type "method",data:=.fields #[S.bK f,.ref<|W.ρ n],slots:=sl}->W.ah a=Sd->n<W.N->eX S W f n (.ref a)
inductive gE(S:bf)(W:Wd)(l:R5 Sf):Se->Prop
 |mk {a d:SJ} {o od:Xl} {k:SS} {t:Tok}:W.h.get? a=KX o->W.ah a=Sd->o.cls=.ref S.xc->abk o=R8->o.dict=KX d->W.h.get? d=KX od->W.ah d=Sd->
   aac "kind" od=KX (KX<|.str k t)->k.cps.toList=l->gE S W l (.ref a)
inductive gR(W:Wd):Se->Prop
 |mk {a:SJ} {o:Xl}:W.h.get? a=KX o->W.ah a=Sd->gR W (.ref a)
inductive aG{α:Type}(R:α->Prop)(Rs:R5 α->Prop):R5 α->Prop
 |mk {v:α} {vs:R5 α}:R v->Rs vs->aG R Rs (v::vs)
structure mq(S:bf)(k:R5 AV)(Rk:R5 Se->Prop)(W:Wd)(R:Se->Prop)(e:Sk):Prop where
 hash:e.hash=AV.hash S 4 (.tup k)
 ok:AV.key 4 (.tup k)=R8
 key:dg W cE Rk e.key
 val:R e.val
inductive jC(S:bf)(i:SK)(R:Se->Prop):Sk->Prop
 |mk {t:Tok} {v:Se}:R v->jC S i R ⟨(TX S.prog S.w).hash i,.int i t,v⟩
inductive jE(S:bf)(l:R5 Sf)(R:Se->Prop):Sk->Prop
 |mk {k:SS} {t:Tok} {v:Se}:k.cps.toList=l->R v->jE S l R ⟨(strKind S.prog S.w).hash k,.str k t,v⟩
inductive iP(S:bf)(i:Sf)(R:Se->Prop):Sk->Prop
 |mk {t:Tok} {v:Se}:R v->iP S i R ⟨Tw S.w.params<|S.nm i,.str (S.nm i) t,v⟩
section
variable{S:bf}{W W':Wd}
theorem iZ.keep{h h':Tu}{a:SJ}{l:R5 SK}(x:iZ S h a l)(k:∀o,h.get? a=KX o->h'.get? a=KX o):iZ S h' a l:=
 iZ.casesOn x λes ep t a b c=>⟨es,ep,t,k _ a,b,c⟩
theorem iZ.some{h:Tu}{a:SJ}{l:R5 SK}(x:iZ S h a l){P:Prop}(k:∀o,h.get? a=KX o->P):P:=
 iZ.casesOn x λes ep t a b c=>k _ a
variable(L:W.Fe W'){u:Se}
include L in
theorem dg.mono{mk:R5 Se->Sf->Xl}{R R':R5 Se->Prop}(h:∀vs,R vs->R' vs):dg W mk R u->dg W' mk R' u:=λx=>dg.casesOn x λa b c=> .mk (L.keep _ _ a b) (L.free _ _ a b)<|h _ c
include L in
theorem jg.mono{nd:Prop}{R R':R5 Sk->Prop}(h:∀vs,R vs->R' vs):jg W nd R u->jg W' nd R' u:=λx=>jg.casesOn x λa b c d e=> .mk (L.keep _ _ a b) (L.free _ _ a b) (h _ c) d e
include L in
theorem dp.mono{nd:Prop}{R R':R5 Sk->Prop}(h:∀vs,R vs->R' vs):dp W nd R u->dp W' nd R' u:=λx=>dp.casesOn x λa b c d=> .mk (L.keep _ _ a b) (L.free _ _ a b) (h _ c) d
include L in
theorem jf.mono{l:R5 SK}:jf S W l u->jf S W' l u:=λx=>jf.casesOn x λa b=> .mk (a.keep λo e=>L.keep _ o e b)<|a.some λu0 e=>L.free _ _ e b
include L in
theorem eY.mono{c:Sf}{R R':R5 Sk->Prop}(h:∀vs,R vs->R' vs):eY S W c R u->eY S W' c R' u:=λx=>eY.casesOn x λa b c d r=> .mk (L.keep _ _ a b) (L.free _ _ a b) (L.keep _ _ c d) (L.free _ _ c d)<|h _ r
include L in
theorem gu.mono{n:Sf}:gu W n u->gu W' n u:=λx=>gu.casesOn x λh=>(R6 (λa=>gu W' n<|.ref a)<|L.dq n h).mp<|.mk<|Si h L.N
include L in
theorem eX.mono{f n:Sf}:eX S W f n u->eX S W' f n u:=λx=>eX.casesOn x λa b c=> .mk (by rw[L.dq n c];exact L.keep _ _ a b) (L.free _ _ a b)<|Si c L.N
include L in
theorem gE.mono{l:R5 Sf}:gE S W l u->gE S W' l u:=λx=>gE.casesOn x λa b c d e f g i j=> .mk (L.keep _ _ a b) (L.free _ _ a b) c d e (L.keep _ _ f g) (L.free _ _ f g) i j
include L in
theorem gR.mono:gR W u->gR W' u:=λx=>gR.casesOn x λa b=> .mk (L.keep _ _ a b)<|L.free _ _ a b
theorem aG.mono{α:Type}{R R':α->Prop}{Rs Rs':R5 α->Prop}(h:∀u,R u->R' u)(hs:∀u,Rs u->Rs' u){vs:R5 α}:aG R Rs vs->aG R' Rs' vs:=λx=>aG.casesOn x λa b=> .mk (h _ a)<|hs _ b
include L in
theorem mq.mono{k:R5 AV}{R R':Se->Prop}{Rk Rk':R5 Se->Prop}(h:∀u,Rk u->Rk' u)(h':∀u,R u->R' u){e:Sk}(x:mq S k Rk W R e):mq S k Rk' W' R' e:=
 ⟨x.hash,x.ok,x.key.mono L h,h' _ x.val⟩
theorem jC.mono{i:SK}{R R':Se->Prop}(h:∀u,R u->R' u){e:Sk}:jC S i R e->jC S i R' e:=λx=>jC.casesOn x λa=> .mk<|h _ a
theorem jE.mono{i:R5 Sf}{R R':Se->Prop}(h:∀u,R u->R' u){e:Sk}:jE S i R e->jE S i R' e:=λx=>jE.casesOn x λa b=> .mk a<|h _ b
theorem iP.mono{i:Sf}{R R':Se->Prop}(h:∀u,R u->R' u){e:Sk}:iP S i R e->iP S i R' e:=λx=>iP.casesOn x λa=> .mk<|h _ a
end
def RV(S:bf)(W:Wd)(u:Se)(x:AV):Prop:=AV.rec (motive_1:=λu0=>Se->Prop) (motive_2:=λu0=>R5 Se->Prop) (motive_3:=λu0=>R5 Sk->Prop) (motive_4:=λu0=>R5 Sk->Prop) (motive_5:=λu0=>R5 Sk->Prop) (motive_6:=λu0=>R5 Sk->Prop) (motive_7:=λu0=>Sk->Prop) (motive_8:=λu0=>Sk->Prop) (motive_9:=λu0=>Sk->Prop) (motive_10:=λu0=>Sk->Prop) (λu=>u=.none) (λb u=>u=.bool b) (i7) (iW) (λu0 R=>dg W cE R) (λu0 R=>dg W aE R) (λl R=>jg W (l.map (·.1)).Nodup R) (λl R=>dp W (l.map (·.1)).Nodup R) (λl R=>dp W (l.map (·.1)).Nodup R) (jf S W) (λc O R=>eY S W c R) (gu W) (λf u=>u=S.bK f) (λc u=>u=.ref (S.cls c)) (eX S W) (gE S W) (gR W) (λvs=>vs=[]) (λu0 u1=>aG) (λvs=>vs=[]) (λu0 u1=>aG) (λvs=>vs=[]) (λu0 u1=>aG) (λvs=>vs=[]) (λu0 u1=>aG) (λvs=>vs=[]) (λu0 u1=>aG) (λk O Rk R=>mq S k Rk W R) (λi O R=>jC S i R) (λl O R=>jE S l R) (λi O R=>iP S i R) x u
def aA(S:bf)(W:Wd)(u:R5 Se)(x:R5 AV):Prop:=AV.rec_1 (motive_1:=λu0=>Se->Prop) (motive_2:=λu0=>R5 Se->Prop) (motive_3:=λu0=>R5 Sk->Prop) (motive_4:=λu0=>R5 Sk->Prop) (motive_5:=λu0=>R5 Sk->Prop) (motive_6:=λu0=>R5 Sk->Prop) (motive_7:=λu0=>Sk->Prop) (motive_8:=λu0=>Sk->Prop) (motive_9:=λu0=>Sk->Prop) (motive_10:=λu0=>Sk->Prop) (λu=>u=.none) (λb u=>u=.bool b) (i7) (iW) (λu0 R=>dg W cE R) (λu0 R=>dg W aE R) (λl R=>jg W (l.map (·.1)).Nodup R) (λl R=>dp W (l.map (·.1)).Nodup R) (λl R=>dp W (l.map (·.1)).Nodup R) (jf S W) (λc O R=>eY S W c R) (gu W) (λf u=>u=S.bK f) (λc u=>u=.ref (S.cls c)) (eX S W) (gE S W) (gR W) (λvs=>vs=[]) (λu0 u1=>aG) (λvs=>vs=[]) (λu0 u1=>aG) (λvs=>vs=[]) (λu0 u1=>aG) (λvs=>vs=[]) (λu0 u1=>aG) (λvs=>vs=[]) (λu0 u1=>aG) (λk O Rk R=>mq S k Rk W R) (λi O R=>jC S i R) (λl O R=>jE S l R) (λi O R=>iP S i R) x u
def df(S:bf)(W:Wd)(u:R5 Sk)(x:R5 (R5 AV×AV)):Prop:=AV.rec_2 (motive_1:=λu0=>Se->Prop) (motive_2:=λu0=>R5 Se->Prop) (motive_3:=λu0=>R5 Sk->Prop) (motive_4:=λu0=>R5 Sk->Prop) (motive_5:=λu0=>R5 Sk->Prop) (motive_6:=λu0=>R5 Sk->Prop) (motive_7:=λu0=>Sk->Prop) (motive_8:=λu0=>Sk->Prop) (motive_9:=λu0=>Sk->Prop) (motive_10:=λu0=>Sk->Prop) (λu=>u=.none) (λb u=>u=.bool b) (i7) (iW) (λu0 R=>dg W cE R) (λu0 R=>dg W aE R) (λl R=>jg W (l.map (·.1)).Nodup R) (λl R=>dp W (l.map (·.1)).Nodup R) (λl R=>dp W (l.map (·.1)).Nodup R) (jf S W) (λc O R=>eY S W c R) (gu W) (λf u=>u=S.bK f) (λc u=>u=.ref (S.cls c)) (eX S W) (gE S W) (gR W) (λvs=>vs=[]) (λu0 u1=>aG) (λvs=>vs=[]) (λu0 u1=>aG) (λvs=>vs=[]) (λu0 u1=>aG) (λvs=>vs=[]) (λu0 u1=>aG) (λvs=>vs=[]) (λu0 u1=>aG) (λk O Rk R=>mq S k Rk W R) (λi O R=>jC S i R) (λl O R=>jE S l R) (λi O R=>iP S i R) x u
def eQ(S:bf)(W:Wd)(u:R5 Sk)(x:R5 (SK×AV)):Prop:=AV.rec_3 (motive_1:=λu0=>Se->Prop) (motive_2:=λu0=>R5 Se->Prop) (motive_3:=λu0=>R5 Sk->Prop) (motive_4:=λu0=>R5 Sk->Prop) (motive_5:=λu0=>R5 Sk->Prop) (motive_6:=λu0=>R5 Sk->Prop) (motive_7:=λu0=>Sk->Prop) (motive_8:=λu0=>Sk->Prop) (motive_9:=λu0=>Sk->Prop) (motive_10:=λu0=>Sk->Prop) (λu=>u=.none) (λb u=>u=.bool b) (i7) (iW) (λu0 R=>dg W cE R) (λu0 R=>dg W aE R) (λl R=>jg W (l.map (·.1)).Nodup R) (λl R=>dp W (l.map (·.1)).Nodup R) (λl R=>dp W (l.map (·.1)).Nodup R) (jf S W) (λc O R=>eY S W c R) (gu W) (λf u=>u=S.bK f) (λc u=>u=.ref (S.cls c)) (eX S W) (gE S W) (gR W) (λvs=>vs=[]) (λu0 u1=>aG) (λvs=>vs=[]) (λu0 u1=>aG) (λvs=>vs=[]) (λu0 u1=>aG) (λvs=>vs=[]) (λu0 u1=>aG) (λvs=>vs=[]) (λu0 u1=>aG) (λk O Rk R=>mq S k Rk W R) (λi O R=>jC S i R) (λl O R=>jE S l R) (λi O R=>iP S i R) x u
def eW(S:bf)(W:Wd)(u:R5 Sk)(x:R5 (R5 Sf×AV)):Prop:=AV.rec_4 (motive_1:=λu0=>Se->Prop) (motive_2:=λu0=>R5 Se->Prop) (motive_3:=λu0=>R5 Sk->Prop) (motive_4:=λu0=>R5 Sk->Prop) (motive_5:=λu0=>R5 Sk->Prop) (motive_6:=λu0=>R5 Sk->Prop) (motive_7:=λu0=>Sk->Prop) (motive_8:=λu0=>Sk->Prop) (motive_9:=λu0=>Sk->Prop) (motive_10:=λu0=>Sk->Prop) (λu=>u=.none) (λb u=>u=.bool b) (i7) (iW) (λu0 R=>dg W cE R) (λu0 R=>dg W aE R) (λl R=>jg W (l.map (·.1)).Nodup R) (λl R=>dp W (l.map (·.1)).Nodup R) (λl R=>dp W (l.map (·.1)).Nodup R) (jf S W) (λc O R=>eY S W c R) (gu W) (λf u=>u=S.bK f) (λc u=>u=.ref (S.cls c)) (eX S W) (gE S W) (gR W) (λvs=>vs=[]) (λu0 u1=>aG) (λvs=>vs=[]) (λu0 u1=>aG) (λvs=>vs=[]) (λu0 u1=>aG) (λvs=>vs=[]) (λu0 u1=>aG) (λvs=>vs=[]) (λu0 u1=>aG) (λk O Rk R=>mq S k Rk W R) (λi O R=>jC S i R) (λl O R=>jE S l R) (λi O R=>iP S i R) x u
def RA(S:bf)(W:Wd)(u:R5 Sk)(x:R5 (Sf×AV)):Prop:=AV.rec_5 (motive_1:=λu0=>Se->Prop) (motive_2:=λu0=>R5 Se->Prop) (motive_3:=λu0=>R5 Sk->Prop) (motive_4:=λu0=>R5 Sk->Prop) (motive_5:=λu0=>R5 Sk->Prop) (motive_6:=λu0=>R5 Sk->Prop) (motive_7:=λu0=>Sk->Prop) (motive_8:=λu0=>Sk->Prop) (motive_9:=λu0=>Sk->Prop) (motive_10:=λu0=>Sk->Prop) (λu=>u=.none) (λb u=>u=.bool b) (i7) (iW) (λu0 R=>dg W cE R) (λu0 R=>dg W aE R) (λl R=>jg W (l.map (·.1)).Nodup R) (λl R=>dp W (l.map (·.1)).Nodup R) (λl R=>dp W (l.map (·.1)).Nodup R) (jf S W) (λc O R=>eY S W c R) (gu W) (λf u=>u=S.bK f) (λc u=>u=.ref (S.cls c)) (eX S W) (gE S W) (gR W) (λvs=>vs=[]) (λu0 u1=>aG) (λvs=>vs=[]) (λu0 u1=>aG) (λvs=>vs=[]) (λu0 u1=>aG) (λvs=>vs=[]) (λu0 u1=>aG) (λvs=>vs=[]) (λu0 u1=>aG) (λk O Rk R=>mq S k Rk W R) (λi O R=>jC S i R) (λl O R=>jE S l R) (λi O R=>iP S i R) x u
section
variable{S:bf}{W:Wd}
theorem RV.none:RV S W .none .none:=rfl
theorem RV.bool{b:Sq}:RV S W (.bool b) (.bool b):=rfl
theorem RV.int{i:SK}{t:Tok}:RV S W (.int i t) (.int i):=i7.mk
theorem RV.str{x:SS}{t:Tok}:RV S W (.str x t) (.str x.cps.toList):=iW.mk rfl
theorem RV.tup{a:SJ}{vs:R5 Se}{n:Sf}{l:R5 AV}(h:W.h.get? a=KX (cE vs n))(h1:W.ah a=S5)(r:aA S W vs l):RV S W (.ref a) (.tup l):=dg.mk h h1 r
theorem RV.lst{a:SJ}{vs:R5 Se}{n:Sf}{l:R5 AV}(h:W.h.get? a=KX (aE vs n))(h1:W.ah a=S5)(r:aA S W vs l):RV S W (.ref a) (.lst l):=dg.mk h h1 r
theorem RV.dT{a:SJ}{es:R5 Sk}{n:Sf}{l:R5 (R5 AV×AV)}(h:W.h.get? a=KX (aI es n))(h1:W.ah a=S5)(r:df S W es l)(d:(l.map (·.1)).Nodup)(e:(a==UA)=Sj):RV S W (.ref a) (.dT l):=jg.mk h h1 r d e
theorem RV.dI{a:SJ}{es:R5 Sk}{n:Sf}{l:R5 (SK×AV)}(h:W.h.get? a=KX (aI es n))(h1:W.ah a=S5)(r:eQ S W es l)(d:(l.map (·.1)).Nodup):RV S W (.ref a) (.dI l):=dp.mk h h1 r d
theorem RV.dS{a:SJ}{es:R5 Sk}{n:Sf}{l:R5 (R5 Sf×AV)}(h:W.h.get? a=KX (aI es n))(h1:W.ah a=S5)(r:eW S W es l)(d:(l.map (·.1)).Nodup):RV S W (.ref a) (.dS l):=dp.mk h h1 r d
theorem RV.aQ{a:SJ}{l:R5 SK}(h:iZ S W.h a l)(h1:W.ah a=S5):RV S W (.ref a) (.aQ l):=jf.mk h h1
theorem RV.inst{a d:SJ}{sl:Td (Sh Se)}{es:R5 Sk}{n c:Sf}{l:R5 (Sf×AV)}(h:W.h.get? a=KX (eE (S.cls c) d sl))(h1:W.ah a=S5)(h2:W.h.get? d=KX (aI es n))(h3:W.ah d=S5)(r:RA S W es l):
  RV S W (.ref a) (.inst c l):=eY.mk h h1 h2 h3 r
theorem RV.ref{n:Sf}(h:n<W.N):RV S W (.ref<|W.ρ n) (.ref n):=gu.mk h
theorem RV.fn{f:Sf}:RV S W (S.bK f) (.fn f):=rfl
theorem RV.cls{c:Sf}:RV S W (.ref<|S.cls c) (.cls c):=rfl
theorem RV.fJ{a:SJ}{f n:Sf}{sl:Td (Sh Se)}(h:W.h.get? a=KX {cls:=.type "method",data:=.fields #[S.bK f,.ref<|W.ρ n],slots:=sl})(h1:W.ah a=S5)(h2:n<W.N):RV S W (.ref a) (.fJ f n):=eX.mk h h1 h2
theorem RV.m9{a d:SJ}{o od:Xl}{k:SS}{t:Tok}(h:W.h.get? a=KX o)(h1:W.ah a=S5)(h2:o.cls=.ref S.xc)(h3:abk o=R8)(h4:o.dict=KX d)(h5:W.h.get? d=KX od)(h6:W.ah d=S5)
  (h7:aac "kind" od=KX (KX<|.str k t)):RV S W (.ref a) (.m9 k.cps.toList):=gE.mk h h1 h2 h3 h4 h5 h6 h7 rfl
theorem RV.lj{a:SJ}{o:Xl}(h:W.h.get? a=KX o)(h1:W.ah a=S5):RV S W (.ref a) .lj:=gR.mk h h1
theorem aA.nil:aA S W [] []:=rfl
theorem aA.cons{v:Se}{x:AV}{vs:R5 Se}{l:R5 AV}(a:RV S W v x)(b:aA S W vs l):aA S W (v::vs) (x::l):=aG.mk a b
@[elab_as_elim] theorem aA.bN {P:R5 Se->Prop} {vs:R5 Se} (h:aA S W vs []) (k:P []):P vs:= @V0 _ _ (λv O=>P v) k _<|Wf h
@[elab_as_elim] theorem aA.aU {P:R5 Se->Prop} {vs:R5 Se} {x:AV} {l:R5 AV} (h:aA S W vs (x::l)) (k:∀v us,RV S W v x->aA S W us l->P (v::us)):P vs:=aG.casesOn h<|k _ _
theorem df.nil:df S W [] []:=rfl
theorem df.cons{e:Sk}{k:R5 AV}{x:AV}{es:R5 Sk}{l:R5 (R5 AV×AV)}(a:e.hash=AV.hash S 4 (.tup k))(b:AV.key 4 (.tup k)=R8)(c:RV S W e.key (.tup k))(d:RV S W e.val x)(r:df S W es l):df S W (e::es) ((k,x)::l):=aG.mk ⟨a,b,c,d⟩ r
theorem eQ.nil:eQ S W [] []:=rfl
theorem eQ.cons{i:SK}{t:Tok}{v:Se}{x:AV}{es:R5 Sk}{l:R5 (SK×AV)}(a:RV S W v x)(b:eQ S W es l):eQ S W (⟨(TX S.prog S.w).hash i,.int i t,v⟩::es) ((i,x)::l):=aG.mk (jC.mk a) b
theorem eW.nil:eW S W [] []:=rfl
theorem eW.cons{k:SS}{t:Tok}{v:Se}{x:AV}{es:R5 Sk}{l:R5 (R5 Sf×AV)}(a:RV S W v x)(b:eW S W es l):eW S W (⟨(strKind S.prog S.w).hash k,.str k t,v⟩::es) ((k.cps.toList,x)::l):=aG.mk (jE.mk rfl a) b
theorem RA.nil:RA S W [] []:=rfl
theorem RA.cons{i:Sf}{t:Tok}{v:Se}{x:AV}{es:R5 Sk}{l:R5 (Sf×AV)}(a:RV S W v x)(b:RA S W es l):RA S W (⟨Tw S.w.params<|S.nm i,.str (S.nm i) t,v⟩::es) ((i,x)::l):=aG.mk (iP.mk a) b
@[elab_as_elim] theorem df.bN {P:R5 Sk->Prop} {vs:R5 Sk} (h:df S W vs []) (k:P []):P vs:= @V0 _ _ (λv O=>P v) k _<|Wf h
@[elab_as_elim] theorem df.aU {P:R5 Sk->Prop} {es:R5 Sk} {x:R5 AV×AV} {l:R5 (R5 AV×AV)} (h:df S W es (x::l)) (k:∀e es,e.hash=AV.hash S 4 (.tup x.1)->AV.key 4 (.tup x.1)=R8->RV S W e.key (.tup x.1)->RV S W e.val x.2->df S W es l->P (e::es)):P es:=aG.casesOn h λr=>k _ _ r.hash r.ok r.key r.val
@[elab_as_elim] theorem eQ.aU {P:R5 Sk->Prop} {es:R5 Sk} {x:SK×AV} {l:R5 (SK×AV)} (h:eQ S W es (x::l)) (k:∀t v es,RV S W v x.2->eQ S W es l->P (⟨(TX S.prog S.w).hash x.1,.int x.1 t,v⟩::es)):P es:=aG.casesOn h λr=>jC.casesOn r λa=>k _ _ _ a
@[elab_as_elim] theorem eW.aU {P:R5 Sk->Prop} {es:R5 Sk} {x:R5 Sf×AV} {l:R5 (R5 Sf×AV)} (h:eW S W es (x::l)) (k:∀(y:SS) t v es,y.cps.toList=x.1->RV S W v x.2->eW S W es l->P (⟨(strKind S.prog S.w).hash y,.str y t,v⟩::es)):P es:=aG.casesOn h λr=>jE.casesOn r λq a=>k _ _ _ _ q a
@[elab_as_elim] theorem RA.bN {P:R5 Sk->Prop} {vs:R5 Sk} (h:RA S W vs []) (k:P []):P vs:= @V0 _ _ (λv O=>P v) k _<|Wf h
@[elab_as_elim] theorem RA.aU {P:R5 Sk->Prop} {es:R5 Sk} {x:Sf×AV} {l:R5 (Sf×AV)} (h:RA S W es (x::l)) (k:∀t v es,RV S W v x.2->RA S W es l->P (⟨Tw S.w.params<|S.nm x.1,.str (S.nm x.1) t,v⟩::es)):P es:=aG.casesOn h λr=>iP.casesOn r λa=>k _ _ _ a
theorem RV.to{u:Se}{x y:AV}(r:RV S W u x)(h:KX x=KX y):RV S W u y:= @V0 _ _ (λy O=>RV S W u y) r _<|R9 h
end
theorem bc{P:Prop}(h:Sj=R8):P:=V6 h
theorem au{α:Type _}{a:α}{P:Prop}(h:Sd=KX a):P:=nomatch h
theorem oA{α:Type _}{a:α}{P:Prop}(h:KX a=Sd):P:=nomatch h
theorem AV.Kg{i j:SK}(h:AV.int i=.int j):i=j:=R6 (λa=>AV.bt a 0 id) h
theorem AV.Kj{i j:R5 Sf}(h:AV.str i=.str j):i=j:=R6 (λa=>AV.onStr a [] id) h
theorem AV.ou{i j:R5 AV}(h:AV.tup i=.tup j):i=j:=R6 (λa=>AV.cQ a [] id) h
theorem AV.D6{i j:R5 AV}(h:AV.lst i=.lst j):i=j:=R6 (λa=>AV.cN a [] id) h
theorem RV.bE{S:bf}{W W':Wd}(L:W.Fe W'){v:Se}{x:AV}(h:RV S W v x):RV S W' v x:=AV.rec (λu0 h=>h) (λu0 u1 h=>h) (λu0 u1 h=>h) (λu0 u1 h=>h) (λu0 ih u1 h=>dg.mono L ih h) (λu0 ih u1 h=>dg.mono L ih h) (λu0 ih u1 h=>jg.mono L ih h) (λu0 ih u1 h=>dp.mono L ih h) (λu0 ih u1 h=>dp.mono L ih h) (λu0 u1 h=>jf.mono L h) (λu0 u1 ih u2 h=>eY.mono L ih h) (λu0 u1 h=>gu.mono L h) (λu0 u1 h=>h) (λu0 u1 h=>h) (λu0 u1 u2 h=>eX.mono L h) (λu0 u1 h=>gE.mono L h) (λu0 h=>gR.mono L h) (λu0 h=>h) (λu0 u1 a b u2 h=>aG.mono a b h) (λu0 h=>h) (λu0 u1 a b u2 h=>aG.mono a b h) (λu0 h=>h) (λu0 u1 a b u2 h=>aG.mono a b h) (λu0 h=>h) (λu0 u1 a b u2 h=>aG.mono a b h) (λu0 h=>h) (λu0 u1 a b u2 h=>aG.mono a b h) (λu0 u1 a b u2 h=>mq.mono L a b h) (λu0 u1 a u2 h=>jC.mono a h) (λu0 u1 a u2 h=>jE.mono a h) (λu0 u1 a u2 h=>iP.mono a h) x v h
theorem aA.bE{S:bf}{W W':Wd}(L:W.Fe W'){v:R5 Se}{x:R5 AV}(h:aA S W v x):aA S W' v x:=AV.rec_1 (motive_3:=λx=>∀u,df S W u x->df S W' u x) (motive_4:=λx=>∀u,eQ S W u x->eQ S W' u x) (motive_5:=λx=>∀u,eW S W u x->eW S W' u x) (motive_6:=λx=>∀u,RA S W u x->RA S W' u x) (λu0 h=>h) (λu0 u1 h=>h) (λu0 u1 h=>h) (λu0 u1 h=>h) (λu0 ih u1 h=>dg.mono L ih h) (λu0 ih u1 h=>dg.mono L ih h) (λu0 ih u1 h=>jg.mono L ih h) (λu0 ih u1 h=>dp.mono L ih h) (λu0 ih u1 h=>dp.mono L ih h) (λu0 u1 h=>jf.mono L h) (λu0 u1 ih u2 h=>eY.mono L ih h) (λu0 u1 h=>gu.mono L h) (λu0 u1 h=>h) (λu0 u1 h=>h) (λu0 u1 u2 h=>eX.mono L h) (λu0 u1 h=>gE.mono L h) (λu0 h=>gR.mono L h) (λu0 h=>h) (λu0 u1 a b u2 h=>aG.mono a b h) (λu0 h=>h) (λu0 u1 a b u2 h=>aG.mono a b h) (λu0 h=>h) (λu0 u1 a b u2 h=>aG.mono a b h) (λu0 h=>h) (λu0 u1 a b u2 h=>aG.mono a b h) (λu0 h=>h) (λu0 u1 a b u2 h=>aG.mono a b h) (λu0 u1 a b u2 h=>mq.mono L a b h) (λu0 u1 a u2 h=>jC.mono a h) (λu0 u1 a u2 h=>jE.mono a h) (λu0 u1 a u2 h=>iP.mono a h) x v h
theorem df.bE{S:bf}{W W':Wd}(L:W.Fe W'){v:R5 Sk}{x:R5 (R5 AV×AV)}(h:df S W v x):df S W' v x:=AV.rec_2 (motive_2:=λx=>∀u,aA S W u x->aA S W' u x) (motive_4:=λx=>∀u,eQ S W u x->eQ S W' u x) (motive_5:=λx=>∀u,eW S W u x->eW S W' u x) (motive_6:=λx=>∀u,RA S W u x->RA S W' u x) (λu0 h=>h) (λu0 u1 h=>h) (λu0 u1 h=>h) (λu0 u1 h=>h) (λu0 ih u1 h=>dg.mono L ih h) (λu0 ih u1 h=>dg.mono L ih h) (λu0 ih u1 h=>jg.mono L ih h) (λu0 ih u1 h=>dp.mono L ih h) (λu0 ih u1 h=>dp.mono L ih h) (λu0 u1 h=>jf.mono L h) (λu0 u1 ih u2 h=>eY.mono L ih h) (λu0 u1 h=>gu.mono L h) (λu0 u1 h=>h) (λu0 u1 h=>h) (λu0 u1 u2 h=>eX.mono L h) (λu0 u1 h=>gE.mono L h) (λu0 h=>gR.mono L h) (λu0 h=>h) (λu0 u1 a b u2 h=>aG.mono a b h) (λu0 h=>h) (λu0 u1 a b u2 h=>aG.mono a b h) (λu0 h=>h) (λu0 u1 a b u2 h=>aG.mono a b h) (λu0 h=>h) (λu0 u1 a b u2 h=>aG.mono a b h) (λu0 h=>h) (λu0 u1 a b u2 h=>aG.mono a b h) (λu0 u1 a b u2 h=>mq.mono L a b h) (λu0 u1 a u2 h=>jC.mono a h) (λu0 u1 a u2 h=>jE.mono a h) (λu0 u1 a u2 h=>iP.mono a h) x v h
theorem eQ.bE{S:bf}{W W':Wd}(L:W.Fe W'){v:R5 Sk}{x:R5 (SK×AV)}(h:eQ S W v x):eQ S W' v x:=AV.rec_3 (motive_2:=λx=>∀u,aA S W u x->aA S W' u x) (motive_3:=λx=>∀u,df S W u x->df S W' u x) (motive_5:=λx=>∀u,eW S W u x->eW S W' u x) (motive_6:=λx=>∀u,RA S W u x->RA S W' u x) (λu0 h=>h) (λu0 u1 h=>h) (λu0 u1 h=>h) (λu0 u1 h=>h) (λu0 ih u1 h=>dg.mono L ih h) (λu0 ih u1 h=>dg.mono L ih h) (λu0 ih u1 h=>jg.mono L ih h) (λu0 ih u1 h=>dp.mono L ih h) (λu0 ih u1 h=>dp.mono L ih h) (λu0 u1 h=>jf.mono L h) (λu0 u1 ih u2 h=>eY.mono L ih h) (λu0 u1 h=>gu.mono L h) (λu0 u1 h=>h) (λu0 u1 h=>h) (λu0 u1 u2 h=>eX.mono L h) (λu0 u1 h=>gE.mono L h) (λu0 h=>gR.mono L h) (λu0 h=>h) (λu0 u1 a b u2 h=>aG.mono a b h) (λu0 h=>h) (λu0 u1 a b u2 h=>aG.mono a b h) (λu0 h=>h) (λu0 u1 a b u2 h=>aG.mono a b h) (λu0 h=>h) (λu0 u1 a b u2 h=>aG.mono a b h) (λu0 h=>h) (λu0 u1 a b u2 h=>aG.mono a b h) (λu0 u1 a b u2 h=>mq.mono L a b h) (λu0 u1 a u2 h=>jC.mono a h) (λu0 u1 a u2 h=>jE.mono a h) (λu0 u1 a u2 h=>iP.mono a h) x v h
theorem eW.bE{S:bf}{W W':Wd}(L:W.Fe W'){v:R5 Sk}{x:R5 (R5 Sf×AV)}(h:eW S W v x):eW S W' v x:=AV.rec_4 (motive_2:=λx=>∀u,aA S W u x->aA S W' u x) (motive_3:=λx=>∀u,df S W u x->df S W' u x) (motive_4:=λx=>∀u,eQ S W u x->eQ S W' u x) (motive_6:=λx=>∀u,RA S W u x->RA S W' u x) (λu0 h=>h) (λu0 u1 h=>h) (λu0 u1 h=>h) (λu0 u1 h=>h) (λu0 ih u1 h=>dg.mono L ih h) (λu0 ih u1 h=>dg.mono L ih h) (λu0 ih u1 h=>jg.mono L ih h) (λu0 ih u1 h=>dp.mono L ih h) (λu0 ih u1 h=>dp.mono L ih h) (λu0 u1 h=>jf.mono L h) (λu0 u1 ih u2 h=>eY.mono L ih h) (λu0 u1 h=>gu.mono L h) (λu0 u1 h=>h) (λu0 u1 h=>h) (λu0 u1 u2 h=>eX.mono L h) (λu0 u1 h=>gE.mono L h) (λu0 h=>gR.mono L h) (λu0 h=>h) (λu0 u1 a b u2 h=>aG.mono a b h) (λu0 h=>h) (λu0 u1 a b u2 h=>aG.mono a b h) (λu0 h=>h) (λu0 u1 a b u2 h=>aG.mono a b h) (λu0 h=>h) (λu0 u1 a b u2 h=>aG.mono a b h) (λu0 h=>h) (λu0 u1 a b u2 h=>aG.mono a b h) (λu0 u1 a b u2 h=>mq.mono L a b h) (λu0 u1 a u2 h=>jC.mono a h) (λu0 u1 a u2 h=>jE.mono a h) (λu0 u1 a u2 h=>iP.mono a h) x v h
theorem RA.bE{S:bf}{W W':Wd}(L:W.Fe W'){v:R5 Sk}{x:R5 (Sf×AV)}(h:RA S W v x):RA S W' v x:=AV.rec_5 (motive_2:=λx=>∀u,aA S W u x->aA S W' u x) (motive_3:=λx=>∀u,df S W u x->df S W' u x) (motive_4:=λx=>∀u,eQ S W u x->eQ S W' u x) (motive_5:=λx=>∀u,eW S W u x->eW S W' u x) (λu0 h=>h) (λu0 u1 h=>h) (λu0 u1 h=>h) (λu0 u1 h=>h) (λu0 ih u1 h=>dg.mono L ih h) (λu0 ih u1 h=>dg.mono L ih h) (λu0 ih u1 h=>jg.mono L ih h) (λu0 ih u1 h=>dp.mono L ih h) (λu0 ih u1 h=>dp.mono L ih h) (λu0 u1 h=>jf.mono L h) (λu0 u1 ih u2 h=>eY.mono L ih h) (λu0 u1 h=>gu.mono L h) (λu0 u1 h=>h) (λu0 u1 h=>h) (λu0 u1 u2 h=>eX.mono L h) (λu0 u1 h=>gE.mono L h) (λu0 h=>gR.mono L h) (λu0 h=>h) (λu0 u1 a b u2 h=>aG.mono a b h) (λu0 h=>h) (λu0 u1 a b u2 h=>aG.mono a b h) (λu0 h=>h) (λu0 u1 a b u2 h=>aG.mono a b h) (λu0 h=>h) (λu0 u1 a b u2 h=>aG.mono a b h) (λu0 h=>h) (λu0 u1 a b u2 h=>aG.mono a b h) (λu0 u1 a b u2 h=>mq.mono L a b h) (λu0 u1 a u2 h=>jC.mono a h) (λu0 u1 a u2 h=>jE.mono a h) (λu0 u1 a u2 h=>iP.mono a h) x v h
section
variable{S:bf}{W:Wd}{P:Se->Prop}{u:Se}
@[elab_as_elim] theorem RV.Bu (h:RV S W u (.none)) (k:P .none):P u:= @V0 _ _ (λv O=>P v) k _<|Wf h
@[elab_as_elim] theorem RV.oZ {b:Sq} (h:RV S W u (.bool b)) (k:P (.bool b)):P u:= @V0 _ _ (λv O=>P v) k _<|Wf h
@[elab_as_elim] theorem RV.eS {i:SK} (h:RV S W u (.int i)) (k:∀t,P<|.int i t):P u:=i7.casesOn h<|k _
@[elab_as_elim] theorem RV.nK {l:R5 Sf} (h:RV S W u (.str l)) (k:∀x t,x.cps.toList=l->P (.str x t)):P u:=iW.casesOn h<|k _ _
@[elab_as_elim] theorem RV.gy {l:R5 AV} (h:RV S W u (.tup l)) (k:∀a vs n,W.h.get? a=KX (cE vs n)->W.ah a=S5->aA S W vs l->P (.ref a)):P u:=dg.casesOn h<|k _ _ _
@[elab_as_elim] theorem RV.kY {l:R5 AV} (h:RV S W u (.lst l)) (k:∀a vs n,W.h.get? a=KX (aE vs n)->W.ah a=S5->aA S W vs l->P (.ref a)):P u:=dg.casesOn h<|k _ _ _
@[elab_as_elim] theorem RV.Px {l:R5 (R5 AV×AV)} (h:RV S W u (.dT l)) (k:∀a es n,W.h.get? a=KX (aI es n)->W.ah a=S5->df S W es l->(l.map (·.1)).Nodup->(a==UA)=Sj->P (.ref a)):P u:=jg.casesOn h<|k _ _ _
@[elab_as_elim] theorem RV.Q5 {l:R5 (SK×AV)} (h:RV S W u (.dI l)) (k:∀a es n,W.h.get? a=KX (aI es n)->W.ah a=S5->eQ S W es l->(l.map (·.1)).Nodup->P (.ref a)):P u:=dp.casesOn h<|k _ _ _
@[elab_as_elim] theorem RV.QX {l:R5 (R5 Sf×AV)} (h:RV S W u (.dS l)) (k:∀a es n,W.h.get? a=KX (aI es n)->W.ah a=S5->eW S W es l->(l.map (·.1)).Nodup->P (.ref a)):P u:=dp.casesOn h<|k _ _ _
@[elab_as_elim] theorem RV.tC {l:R5 SK} (h:RV S W u (.aQ l)) (k:∀a,iZ S W.h a l->W.ah a=S5->P (.ref a)):P u:=jf.casesOn h<|k _
@[elab_as_elim] theorem RV.Hl {c:Sf} {l:R5 (Sf×AV)} (h:RV S W u (.inst c l)) (k:∀a d sl es n,W.h.get? a=KX (eE (S.cls c) d sl)->W.ah a=S5->W.h.get? d=KX (aI es n)->W.ah d=S5->RA S W es l->P (.ref a)):P u:=eY.casesOn h<|k _ _ _ _ _
@[elab_as_elim] theorem RV.nI {n:Sf} (h:RV S W u (.ref n)) (k:n<W.N->P (.ref<|W.ρ n)):P u:=gu.casesOn h k
@[elab_as_elim] theorem RV.GQ {g:Sf} (h:RV S W u (.fn g)) (k:P (S.bK g)):P u:= @V0 _ _ (λv O=>P v) k _<|Wf h
@[elab_as_elim] theorem RV.K5 {c:Sf} (h:RV S W u (.cls c)) (k:P (.ref<|S.cls c)):P u:= @V0 _ _ (λv O=>P v) k _<|Wf h
@[elab_as_elim] theorem RV.NB {g:Sf} {n:Sf} (h:RV S W u (.fJ g n)) (k:∀a sl,W.h.get? a=KX {cls:=.type "method",data:=.fields #[S.bK g,.ref<|W.ρ n],slots:=sl}->W.ah a=S5->n<W.N->P (.ref a)):P u:=eX.casesOn h<|k _ _
@[elab_as_elim] theorem RV.P1 {l:R5 Sf} (h:RV S W u (.m9 l)) (k:∀a d o od k t,W.h.get? a=KX o->W.ah a=S5->o.cls=.ref S.xc->abk o=R8->o.dict=KX d->W.h.get? d=KX od->W.ah d=S5->aac "kind" od=KX (KX<|.str k t)->k.cps.toList=l->P (.ref a)):P u:=gE.casesOn h<|k _ _ _ _ _ _
@[elab_as_elim] theorem RV.bR {β:Type} {d y:β} {f:Sq->β} (k:∀b,f b=y->P (.bool b)):∀{a:AV},RV S W u a->a.bR d f=y->(d=y->P u)->P u:=by intro a;induction a using AV.casesOn<;>first|exact @ql _ (d=y) _|exact λr h O=>RV.oZ r<|k _ h
@[elab_as_elim] theorem RV.bt {β:Type} {d y:β} {f:SK->β} (k:∀i,f i=y->∀t,P<|.int i t):∀{a:AV},RV S W u a->a.bt d f=y->(d=y->P u)->P u:=by intro a;induction a using AV.casesOn<;>first|exact @ql _ (d=y) _|exact λr h O=>RV.eS r<|k _ h
@[elab_as_elim] theorem RV.onStr {β:Type} {d y:β} {f:R5 Sf->β} (k:∀l,f l=y->∀x t,x.cps.toList=l->P (.str x t)):∀{a:AV},RV S W u a->a.onStr d f=y->(d=y->P u)->P u:=by intro a;induction a using AV.casesOn<;>first|exact @ql _ (d=y) _|exact λr h O=>RV.nK r<|k _ h
@[elab_as_elim] theorem RV.cQ {β:Type} {d y:β} {f:R5 AV->β} (k:∀l,f l=y->∀a vs n,W.h.get? a=KX (cE vs n)->W.ah a=S5->aA S W vs l->P (.ref a)):∀{a:AV},RV S W u a->a.cQ d f=y->(d=y->P u)->P u:=by intro a;induction a using AV.casesOn<;>first|exact @ql _ (d=y) _|exact λr h O=>RV.gy r<|k _ h
@[elab_as_elim] theorem RV.cN {β:Type} {d y:β} {f:R5 AV->β} (k:∀l,f l=y->∀a vs n,W.h.get? a=KX (aE vs n)->W.ah a=S5->aA S W vs l->P (.ref a)):∀{a:AV},RV S W u a->a.cN d f=y->(d=y->P u)->P u:=by intro a;induction a using AV.casesOn<;>first|exact @ql _ (d=y) _|exact λr h O=>RV.kY r<|k _ h
@[elab_as_elim] theorem RV.pb {β:Type} {d y:β} {f:R5 (R5 AV×AV)->β} (k:∀l,f l=y->∀a es n,W.h.get? a=KX (aI es n)->W.ah a=S5->df S W es l->(l.map (·.1)).Nodup->(a==UA)=Sj->P (.ref a)):∀{a:AV},RV S W u a->a.pb d f=y->(d=y->P u)->P u:=by intro a;induction a using AV.casesOn<;>first|exact @ql _ (d=y) _|exact λr h O=>RV.Px r<|k _ h
@[elab_as_elim] theorem RV.yF {β:Type} {d y:β} {f:R5 (SK×AV)->β} (k:∀l,f l=y->∀a es n,W.h.get? a=KX (aI es n)->W.ah a=S5->eQ S W es l->(l.map (·.1)).Nodup->P (.ref a)):∀{a:AV},RV S W u a->a.yF d f=y->(d=y->P u)->P u:=by intro a;induction a using AV.casesOn<;>first|exact @ql _ (d=y) _|exact λr h O=>RV.Q5 r<|k _ h
@[elab_as_elim] theorem RV.yh {β:Type} {d y:β} {f:R5 (R5 Sf×AV)->β} (k:∀l,f l=y->∀a es n,W.h.get? a=KX (aI es n)->W.ah a=S5->eW S W es l->(l.map (·.1)).Nodup->P (.ref a)):∀{a:AV},RV S W u a->a.yh d f=y->(d=y->P u)->P u:=by intro a;induction a using AV.casesOn<;>first|exact @ql _ (d=y) _|exact λr h O=>RV.QX r<|k _ h
@[elab_as_elim] theorem RV.eC {β:Type} {d y:β} {f:Sf->R5 (Sf×AV)->β} (k:∀c l,f c l=y->∀a d sl es n,W.h.get? a=KX (eE (S.cls c) d sl)->W.ah a=S5->W.h.get? d=KX (aI es n)->W.ah d=S5->RA S W es l->P (.ref a)):∀{a:AV},RV S W u a->a.eC d f=y->(d=y->P u)->P u:=by intro a;induction a using AV.casesOn<;>first|exact @ql _ (d=y) _|exact λr h O=>RV.Hl r<|k _ _ h
@[elab_as_elim] theorem RV.ie {β:Type} {d y:β} {f:Sf->β} (k:∀n,f n=y->n<W.N->P (.ref<|W.ρ n)):∀{a:AV},RV S W u a->a.ie d f=y->(d=y->P u)->P u:=by intro a;induction a using AV.casesOn<;>first|exact @ql _ (d=y) _|exact λr h O=>RV.nI r<|k _ h
@[elab_as_elim] theorem RV.wq {β:Type} {d y:β} {f:R5 Sf->β} (k:∀l,f l=y->∀a d o od k t,W.h.get? a=KX o->W.ah a=S5->o.cls=.ref S.xc->abk o=R8->o.dict=KX d->W.h.get? d=KX od->W.ah d=S5->aac "kind" od=KX (KX<|.str k t)->k.cps.toList=l->P (.ref a)):∀{a:AV},RV S W u a->a.wq d f=y->(d=y->P u)->P u:=by intro a;induction a using AV.casesOn<;>first|exact @ql _ (d=y) _|exact λr h O=>RV.P1 r<|k _ h
end
section
variable{S:bf}{W W':Wd}(L:W.Le W')
include L
theorem RV.mono{v:Se}{x:AV}(r:RV S W v x):RV S W' v x:=RV.bE L.toFe r
theorem aA.mono{v:R5 Se}{x:R5 AV}(r:aA S W v x):aA S W' v x:=aA.bE L.toFe r
theorem df.mono{v:R5 Sk}{x:R5 (R5 AV×AV)}(r:df S W v x):df S W' v x:=df.bE L.toFe r
end
namespace aA
variable{S:bf}{W:Wd}
theorem length{l:R5 AV}:∀{vs:R5 Se},aA S W vs l->vs.length=l.length:=by
 induction l with
 |nil=>exact λr=>r.bN rfl
 |cons x l ih=>exact λr=>r.aU λu0 u1 u2 b=>R6 (·+1)<|ih b
theorem append{m:R5 AV}{ws:R5 Se}(y:aA S W ws m){l:R5 AV}:∀{vs:R5 Se},aA S W vs l->aA S W (vs++ws) (l++m):=by
 induction l with
 |nil=>exact λr=>r.bN y
 |cons x l ih=>exact λr=>r.aU λu0 u1 a b=>aA.cons a<|ih b
theorem get{x:AV}{l:R5 AV}:∀{vs:R5 Se} {i:Sf},aA S W vs l->l[i]? =KX x->∃v,vs[i]? =KX v/\RV S W v x:=by
 induction l with
 |nil=>exact λu0 e=>au e
 |cons y l ih=>exact fun{_ i} r=>r.aU λv us a b=>SW i (λe=>⟨v,rfl,a.to e⟩)<|λi e=>ih (i:=i) b e
theorem take{l:R5 AV}:∀{vs:R5 Se} (k:Sf),aA S W vs l->aA S W (vs.take k) (l.take k):=by
 induction l with
 |nil=>exact λk r=>r.bN<|SW k aA.nil λu0=>aA.nil
 |cons x l ih=>exact λk r=>r.aU λv us a b=>SW k aA.nil λk=>aA.cons a<|ih k b
theorem set{v:Se}{y:AV}(h:RV S W v y){l:R5 AV}:∀{vs:R5 Se} (k:Sf),aA S W vs l->aA S W (vs.set k v) (l.set k y):=by
 induction l with
 |nil=>exact λk r=>r.bN aA.nil
 |cons x l ih=>exact λk r=>r.aU λu us a b=>SW k (aA.cons h b) λk=>aA.cons a<|ih k b
end aA
end
noncomputable section
open PySem
set_option genCtorIdx false
section
set_option genCtorIdx true in
inductive rT where
 |add|sub|mul|fdiv|mod|pow|or
set_option genCtorIdx true in
inductive pW where
 |lt|gt|ge|le|eq|ne|fi|Hu|vv|jw
set_option genCtorIdx true in
inductive Bi where
 |len|max|int|str|list|tup|HF|Pt|sN
inductive Tg where
 |n (i:Sf)
 |t (l:R5 Tg)
mutual
inductive ME where
 |c (v:AV)
 |v (i:Sf)
 |g (i:Sf)
 |tup (l:R5 ME)
 |lst (l:R5 ME)
 |oL
 |bin (o:rT) (a b:ME)
 |not (a:ME)
 |neg (a:ME)
 |and (l:R5 ME)
 |or (l:R5 ME)
 |ite (c a b:ME)
 |cmp (o:pW) (a b:ME)
 |rZ (a b c:ME)
 |idx (a i:ME)
 |kH (a hi:ME)
 |aL (a:ME) (x:Sf)
 |aM (g:Sf) (l:R5 ME)
 |callC (g:Sf) (l:R5 ME)
 |rE (g:Sf) (l:R5 ME)
 |aW (b:Bi) (l:R5 ME)
 |lO (i:Sf) (l:R5 ME)
 |aD (a:ME) (x:Sf) (l:R5 ME)
 |get (a:ME) (l:R5 ME)
 |dz (a b:ME)
 |comp (cap:R5 (Sh Sf)) (t:Tg) (s:Src) (ifs:R5 ME) (elt:ME)
 |AX (cap:R5 (Sh Sf)) (t:Tg) (s:Src) (t2:Tg) (s2:Src) (elt:ME)
 |Ao (neg:Sq) (k:ME) (o:Sf) (x:Sf)
 |xb (o:Sf) (x:Sf) (k:ME)
 |Ml (o:Sf) (x:Sf)
 |any
inductive Src where
 |e (a:ME)
 |rng (a:ME)
 |enum (a:ME)
 |zip0 (a b:ME)
 |cb (g:Sf) (l:R5 ME)
end
set_option genCtorIdx true in
inductive DK where
 |T|I|S
inductive MS where
 |ret (e:ME)
 |ret0
 |ex (e:ME)
 |as (i:Sf) (e:ME)
 |asT (t:Tg) (e:ME)
 |asL (i:Sf) (l:R5 ME)
 |asC (i:Sf) (e:ME)
 |asR (i:Sf) (a n:ME)
 |asD (i:Sf)
 |as2 (i j:Sf) (a b:R5 ME)
 |asB (i j:Sf) (g:Sf) (l:R5 ME) (e:ME)
 |at(o:ME) (x:Sf) (e:ME)
 |atL (o:ME) (x:Sf) (nest:Sq)
 |atD (o:ME) (x:Sf) (k:DK)
 |app (i:Sf) (e:ME)
 |ext (i:Sf) (e:ME)
 |pop (j i:Sf)
 |stL (i:Sf) (k e:ME)
 |stD (i:Sf) (k e:ME)
 |apA (o:ME) (x:Sf) (e:ME)
 |apA0 (o:ME) (x:Sf)
 |apAK (o:ME) (x:Sf) (k e:ME)
 |stA (o:ME) (x:Sf) (k e:ME)
 |stB (i:Sf) (k e:ME)
 |aug (i:Sf) (e:ME)
 |iff (c:ME) (t e:R5 MS)
 |wh (c:ME) (b:R5 MS)
 |whN (i:Sf) (b:R5 MS)
 |for (t:Tg) (s:Src) (b:R5 MS)
 |cont
 |dfn (i:Sf)
 |gH (i:Sf)
 |frA (o:ME) (x:Sf)
 |any
set_option genCtorIdx true in
inductive SV where
 |un
 |fr (v:AV)
 |ml (l:R5 AV)
 |hY (l:R5 (R5 AV))
 |mT (l:R5 (R5 AV×AV))
 |mI (l:R5 (SK×AV))
 |mS (l:R5 (R5 Sf×AV))
noncomputable def SV.frozen:SV->Sh AV
 |.fr v=>KX v
 |.ml l=>KX<|.lst l
 |.hY l=>KX<|.lst<|l.map .lst
 |.mT l=>KX<|.dT l
 |.mI l=>KX<|.dI l
 |.mS l=>KX<|.dS l
 |.un=>Sd
set_option genCtorIdx true in
inductive HE where
 |inst (c:Sf) (l:R5 (Sf×SV))
 |box (l:R5 AV)
 |dead
structure iO where
 ar:Sf
 dfl:R5 AV
 fH:Sf
 body:R5 MS
structure rO where
 init:Sf
 value:Sq
 meths:R5 (Sf×Sf)
structure PD where
 bW:R5 AV
 fns:R5 iO
 cls:R5 rO
 kind:Sf
set_option genCtorIdx true in
inductive Fl where
 |nx|ct|rt (v:AV)
noncomputable abbrev Loc:=R5 SV
noncomputable abbrev Hp:=R5 HE
structure Rec where
 e:ME->Loc->Hp->Sh (AV×Hp)
 t:ME->Loc->Hp->Sh (Sq×Hp)
 s:MS->Loc->Hp->Sh (Fl×Loc×Hp)
 f:Sf->R5 AV->Hp->Sh (AV×Hp)
section
variable{α β:Type}
noncomputable def mP(o:Sh α)(f:α->Sh β):Sh β:=Sl o Sd f
@[irreducible] noncomputable def cz (o:Sh α) (f:α->Sh β):Sh β:=Sl o Sd f
@[irreducible] noncomputable def bq (o:Sh (α×Hp)) (f:α->Hp->Sh β):Sh β:=Sl o Sd λp=>Wn p f
@[irreducible] noncomputable def qQ (o:Sh (Fl×Loc×Hp)) (f:Fl->Loc->Hp->Sh β):Sh β:=Sl o Sd λp=>Wn p λa p=>Wn p λb c=>f a b c
variable{P:Prop}{y:β}
theorem bG{o:Sh α}{f:α->Sh β}(k:∀x,o=KX x->f x=KX y->P):cz o f=KX y->P:=by
 induction o using Sl
 ·with_unfolding_all exact au
 ·with_unfolding_all exact k _ rfl
theorem kL{o:Sh α}{f:α->Sh β}(k:∀x,o=KX x->f x=KX y->P):mP o f=KX y->P:=by
 induction o using Sl
 ·exact au
 ·exact k _ rfl
theorem aC{o:Sh (α×Hp)}{f:α->Hp->Sh β}(k:∀x H,o=KX (x,H)->f x H=KX y->P):bq o f=KX y->P:=by
 induction o using Sl
 ·with_unfolding_all exact au
 ·with_unfolding_all exact k _ _ rfl
theorem lU{o:Sh (Fl×Loc×Hp)}{f:Fl->Loc->Hp->Sh β}(k:∀x l H,o=KX (x,l,H)->f x l H=KX y->P):qQ o f=KX y->P:=by
 induction o using Sl
 ·with_unfolding_all exact au
 ·with_unfolding_all exact k _ _ _ rfl
theorem Qt{x:α}{f:α->Sh β}:mP (KX x) f=f x:=rfl
theorem bj{o:Sh α}{f:α->Sh β}{x:α}{y:Sh β}(h:o=KX x)(k:f x=y):cz o f=y:=by subst h;with_unfolding_all exact k
theorem aq{o:Sh (α×Hp)}{f:α->Hp->Sh β}{x:α}{H:Hp}{y:Sh β}(h:o=KX (x,H))(k:f x H=y):bq o f=y:=by subst h;with_unfolding_all exact k
theorem g7{o:Sh (Fl×Loc×Hp)}{f:Fl->Loc->Hp->Sh β}{x:Fl}{l:Loc}{H:Hp}{y:Sh β}(h:o=KX (x,l,H))(k:f x l H=y):qQ o f=y:=by subst h;with_unfolding_all exact k
theorem map_eq{o:Sh α}{f:α->β}{x:α}(h:o=KX x):o.map f=KX (f x):=h▸rfl
theorem aR{c:Prop}[X7 c]{x:Sh β}(k:c->x=KX y->P)(h:(if c then x else Sd)=KX y):P:=
 if hc:c then k hc (by rwa [Sv hc] at h) else au (by rwa [SI hc] at h)
theorem bI{o:Sh α}{f:α->β}(k:∀x,o=KX x->f x=y->P):o.map f=KX y->P:=by
 induction o using Sl
 ·exact au
 ·exact λh=>k _ rfl (R9 h)
theorem ae{a b:Sq}(k:a=R8->b=R8->P):(a&&b)=R8->P:=by
 induction a using Tb
 ·exact bc
 ·exact k rfl
@[elab_as_elim] theorem I9 {x y:α} {P:α->Prop} (k:P x) (h:KX x=KX y):P y:=R9 h▸k
@[elab_as_elim] theorem gG {a c:α} {b d:β} {P:α->β->Prop} (k:P a b) (h:KX (a,b)=KX (c,d)):P c d:= @V0 _ _ (λq O=>P q.1 q.2) k _<|R9 h
@[elab_as_elim] theorem n5 {a c:Fl} {b d:Loc} {e f:Hp} {P:Fl->Loc->Hp->Prop} (k:P a b e) (h:KX (a,b,e)=KX (c,d,f)):P c d f:= @V0 _ _ (λq O=>P q.1 q.2.1 q.2.2) k _<|R9 h
end
noncomputable def SV.uF{β:Type}(a:SV)(d:β)(f:AV->β):β:=by
 induction a using SV.casesOn with
 |fr x=>exact f x
 |_=>exact d
@[elab_as_elim] theorem SV.qW {β:Type} {P:SV->Prop} {d y:β} {f:AV->β} (k:∀x,f x=y->P (.fr x)):∀{a:SV},a.uF d f=y->(d=y->P a)->P a:=by intro a;induction a using SV.casesOn<;>first|exact @eL (d=y) _|exact λh O=>k _ h
noncomputable def SV.j6{β:Type}(a:SV)(d:β)(f:R5 AV->β):β:=by
 induction a using SV.casesOn with
 |ml x=>exact f x
 |_=>exact d
@[elab_as_elim] theorem SV.uj {β:Type} {P:SV->Prop} {d y:β} {f:R5 AV->β} (k:∀x,f x=y->P (.ml x)):∀{a:SV},a.j6 d f=y->(d=y->P a)->P a:=by intro a;induction a using SV.casesOn<;>first|exact @eL (d=y) _|exact λh O=>k _ h
noncomputable def SV.wt{β:Type}(a:SV)(d:β)(f:R5 (R5 AV)->β):β:=by
 induction a using SV.casesOn with
 |hY x=>exact f x
 |_=>exact d
@[elab_as_elim] theorem SV.F7 {β:Type} {P:SV->Prop} {d y:β} {f:R5 (R5 AV)->β} (k:∀x,f x=y->P (.hY x)):∀{a:SV},a.wt d f=y->(d=y->P a)->P a:=by intro a;induction a using SV.casesOn<;>first|exact @eL (d=y) _|exact λh O=>k _ h
noncomputable def SV.qR{β:Type}(a:SV)(d:β)(f:R5 (R5 AV×AV)->β):β:=by
 induction a using SV.casesOn with
 |mT x=>exact f x
 |_=>exact d
@[elab_as_elim] theorem SV.uL {β:Type} {P:SV->Prop} {d y:β} {f:R5 (R5 AV×AV)->β} (k:∀x,f x=y->P (.mT x)):∀{a:SV},a.qR d f=y->(d=y->P a)->P a:=by intro a;induction a using SV.casesOn<;>first|exact @eL (d=y) _|exact λh O=>k _ h
noncomputable def SV.ER{β:Type}(a:SV)(d:β)(f:R5 (SK×AV)->β):β:=by
 induction a using SV.casesOn with
 |mI x=>exact f x
 |_=>exact d
@[elab_as_elim] theorem SV.zG {β:Type} {P:SV->Prop} {d y:β} {f:R5 (SK×AV)->β} (k:∀x,f x=y->P (.mI x)):∀{a:SV},a.ER d f=y->(d=y->P a)->P a:=by intro a;induction a using SV.casesOn<;>first|exact @eL (d=y) _|exact λh O=>k _ h
noncomputable def SV.My{β:Type}(a:SV)(d:β)(f:R5 (R5 Sf×AV)->β):β:=by
 induction a using SV.casesOn with
 |mS x=>exact f x
 |_=>exact d
@[elab_as_elim] theorem SV.Jj {β:Type} {P:SV->Prop} {d y:β} {f:R5 (R5 Sf×AV)->β} (k:∀x,f x=y->P (.mS x)):∀{a:SV},a.My d f=y->(d=y->P a)->P a:=by intro a;induction a using SV.casesOn<;>first|exact @eL (d=y) _|exact λh O=>k _ h
section
variable{β:Type}
noncomputable def HE.eC(o:Sh HE)(d:β)(f:Sf->R5 (Sf×SV)->β):β:=Sl o d λe=>HE.casesOn e f (λu0=>d) d
noncomputable def HE.tA(o:Sh HE)(d:β)(f:R5 AV->β):β:=Sl o d λe=>HE.casesOn e (λu0 u1=>d) f d
variable{P:Sh HE->Prop}{d y:β}
set_option tactic.hygienic true in
@[elab_as_elim] theorem HE.gN {f:Sf->R5 (Sf×SV)->β} (k:∀c l,f c l=y->P (KX<|.inst c l)):∀{o:Sh HE},HE.eC o d f=y->(d=y->P o)->P o:=by
 intro o;induction o using Sl
 ·exact @eL (d=y) _
 ·rename_i e;induction e using HE.casesOn
  ·exact λh O=>k _ _ h
  ·exact @eL (d=y) _
  ·exact @eL (d=y) _
set_option tactic.hygienic true in
@[elab_as_elim] theorem HE.xO {f:R5 AV->β} (k:∀l,f l=y->P (KX<|.box l)):∀{o:Sh HE},HE.tA o d f=y->(d=y->P o)->P o:=by
 intro o;induction o using Sl
 ·exact @eL (d=y) _
 ·rename_i e;induction e using HE.casesOn
  ·exact @eL (d=y) _
  ·exact λh O=>k _ h
  ·exact @eL (d=y) _
end
@[irreducible] def qP {β:Type} (o:Sh SV) (f:AV->Sh β):Sh β:=cz o λs=>s.uF Sd f
theorem oQ{β:Type}{o:Sh SV}{f:AV->Sh β}{v:AV}{y:Sh β}(h:o=KX (.fr v))(k:f v=y):qP o f=y:=by unfold qP;exact bj h k
theorem jJ{β:Type}{P:Prop}{o:Sh SV}{f:AV->Sh β}{y:β}(k:∀v,o=KX (.fr v)->f v=KX y->P)(h:qP o f=KX y):P:=by unfold qP at h;exact bG (λu0 e h=>SV.qW (P:=λs=>o=KX s->P) (λv h e=>k v e h) h (λh O=>au h) e) h
noncomputable def yB(f:AV->AV->Sq)(l:R5 AV):R5 AV->Bool:=
 S8 (λm=>Sp m R8 λu0 u1=>Sj) (λx O ih m=>Sp m Sj λy m=>f x y&&ih m) l
def zQ(a b:AV)(t:R5 AV->R5 AV->Sq):Bool:=a.cQ (a.cN (a.cM (a.bt (a.onStr Sj λx=>b.onStr Sj λy=>decide (x=y)) λx=>b.bt Sj λy=>decide (x=y))<|b.cM Sj R8) λx=>b.cN Sj<|t x) λx=>b.cQ Sj<|t x
def Ql(d:Sf):R5 AV->R5 AV->Bool:=VA (λu0 u1=>Sj) (λu0 ih=>yB λa b=>zQ a b ih) d
def AV.beq(d:Sf)(a b:AV):Bool:=zQ a b<|Ql d
def vg(a:AV)(t:R5 AV->Sq):Bool:=a.cQ (a.cN (a.cM (a.bt (a.onStr Sj qT) λu0=>R8) R8) t) t
def JM(d:Sf):R5 AV->Bool:=VA (λu0=>Sj) (λu0 ih l=>l.all λa=>vg a ih) d
def AV.plain(d:Sf)(a:AV):Bool:=vg a<|JM d
def kF(a b:R5 AV):Bool:=AV.beq 5 (.tup a)<|.tup b
def tw(a b:AV):Sh Bool:=if AV.plain 8 a&&AV.plain 8 b then KX (AV.beq 8 a b) else Sd
def yA(a:AV)(l:R5 AV):Sh Bool:=if AV.plain 7 a&&l.all (AV.plain 7) then KX (l.any λy=>AV.beq 7 y a) else Sd
def bX(k:R5 AV)(l:R5 (R5 AV×AV)):Sh AV:=S8 Sd (λp O ih=>if kF p.1 k then KX p.2 else ih) l
noncomputable def ez(k:SK)(l:R5 (SK×AV)):Sh AV:=S8 Sd (λp O ih=>if p.1=k then KX p.2 else ih) l
noncomputable def wj(k:R5 Sf)(l:R5 (R5 Sf×AV)):Sh AV:=S8 Sd (λp O ih=>if p.1=k then KX p.2 else ih) l
def hG(k:R5 AV)(v:AV)(l:R5 (R5 AV×AV)):R5 (R5 AV×AV):=S8 [(k,v)] (λp l ih=>if kF p.1 k then(p.1,v)::l else p::ih) l
noncomputable def iF(k:SK)(v:AV)(l:R5 (SK×AV)):R5 (SK×AV):=S8 [(k,v)] (λp l ih=>if p.1=k then(p.1,v)::l else p::ih) l
noncomputable def ux(k:R5 Sf)(v:AV)(l:R5 (R5 Sf×AV)):R5 (R5 Sf×AV):=S8 [(k,v)] (λp l ih=>if p.1=k then(p.1,v)::l else p::ih) l
noncomputable def fY{α:Type}(x:Sf)(l:R5 (Sf×α)):Sh α:=S8 Sd (λp O ih=>if p.1=x then KX p.2 else ih) l
abbrev cL(x:Sf)(l:R5 (Sf×SV)):Sh SV:=fY x l
noncomputable def lg(x:Sf)(v:SV)(l:R5 (Sf×SV)):R5 (Sf×SV):=S8 [(x,v)] (λp l ih=>if p.1=x then(p.1,v)::l else p::ih) l
section
variable{k:R5 AV}{i:SK}{t:R5 Sf}{n:Sf}{v:AV}{α:Type}{w:α}
theorem Bx{p}{l:R5 (R5 AV×AV)}:bX k (p::l)=if kF p.1 k then KX p.2 else bX k l:=rfl
theorem jT{p}{l:R5 (SK×AV)}:ez i (p::l)=if p.1=i then KX p.2 else ez i l:=rfl
theorem NI{p}{l:R5 (R5 Sf×AV)}:wj t (p::l)=if p.1=t then KX p.2 else wj t l:=rfl
theorem NK{p}{l:R5 (Sf×α)}:fY n (p::l)=if p.1=n then KX p.2 else fY n l:=rfl
theorem pX{p}{l:R5 (R5 AV×AV)}:hG k v (p::l)=if kF p.1 k then(p.1,v)::l else p::hG k v l:=rfl
theorem qI{p}{l:R5 (SK×AV)}:iF i v (p::l)=if p.1=i then(p.1,v)::l else p::iF i v l:=rfl
theorem OY{p}{l:R5 (R5 Sf×AV)}:ux t v (p::l)=if p.1=t then(p.1,v)::l else p::ux t v l:=rfl
theorem Pg{x:SV}{p}{l:R5 (Sf×SV)}:lg n x (p::l)=if p.1=n then(p.1,x)::l else p::lg n x l:=rfl
end
noncomputable def big:Int:=2^62
def cO(i:SK):Bool:=decide (-big<i)&&decide (i<big)
noncomputable def aw(n:Sf):Bool:=decide (n<1000)
noncomputable def fh(n:Sf):Bool:=decide (n<100)
def pA{β:Type}(a b:AV)(f:SK->SK->Sh β):Sh β:=a.bt Sd λx=>b.bt Sd λy=>f x y
def fV(o:rT)(a b:AV):Sh AV:=rT.casesOn o
 (a.bt (a.onStr (a.cN Sd λx=>b.cN Sd λy=>if aw x.length&&aw y.length then KX (.lst<|x++y) else Sd)
  λx=>b.onStr Sd λy=>if aw x.length&&aw y.length then KX (.str<|x++y) else Sd) λx=>b.bt Sd λy=>KX<|.int<|x+y)
 (a.bt (a.jS Sd λx=>b.jS Sd λy=>if fh x.length&&fh y.length then KX (.aQ<|x.filter λk=> !y.contains k) else Sd) λx=>b.bt Sd λy=>KX<|.int<|x-y)
 (a.bt (a.cN Sd λl=>Sp l Sd λx r=>Sp r (b.bt Sd λy=>if y=0 then KX (.lst []) else if y=1 then KX (.lst [x]) else Sd) λu0 u1=>Sd)
  λx=>b.bt Sd λy=>if cO y then KX (.int<|x*y) else Sd)
 (pA a b λx y=>if y≠0/\cO y=R8 then KX (.int<|Y6 x y) else Sd)
 (pA a b λx y=>if y=0 then Sd else KX (.int<|We x y))
 (pA a b λx y=>if 0<=y/\y<64/\cO x=R8 then KX (.int<|x^y.toNat) else Sd)
 (a.jS Sd λx=>b.jS Sd λy=>if fh x.length&&fh y.length then KX (.aQ<|x++y) else Sd)
def Lc(a b:AV):Sh Bool:=b.cQ (b.cN (b.jS (b.pb Sd λl=>a.cQ Sd λk=>if AV.key 4 (.tup k) then KX (bX k l).isSome else Sd)
 λl=>a.bt Sd λx=>if cO x&&fh l.length then KX (l.contains x) else Sd)<|yA a)<|yA a
def EW(a b:AV):Sh Bool:=b.cM Sd<|a.Bk (KX<|a.cM Sj R8) Sd
def LB(a b:AV):Sh Bool:=b.jS ((Lc a b).map (!·)) λu0=>Sd
def dF(o:pW)(a b:AV):Sh Bool:=pW.casesOn o
 (pA a b λx y=>KX<|decide (x<y)) (pA a b λx y=>KX<|decide (y<x)) (pA a b λx y=>KX<|decide (y<=x)) (pA a b λx y=>KX<|decide (x<=y))
 (tw a b) ((tw a b).map (!·)) (Lc a b) (LB a b) (EW a b) ((EW a b).map (!·))
def ff(a i:AV):Sh AV:=a.cQ (a.cN (a.pb (a.yF (a.yh Sd λl=>i.onStr Sd λk=>wj k l) λl=>i.bt Sd λk=>if cO k then ez k l else Sd)
 λl=>i.cQ Sd λk=>if AV.key 4 (.tup k) then bX k l else Sd) λl=>i.bt Sd λk=>if 0<=k/\k<big then l[k.toNat]? else Sd)
 λl=>i.bt Sd λk=>if 0<=k/\k<big then l[k.toNat]? else Sd
noncomputable def ip(n:Sf)(k:SK):Nat:=if 0<=k then min k.toNat n else(k+n).toNat
def AK(a hi:AV):Sh AV:=a.cQ Sd λl=>hi.bt Sd λk=>if cO k&&aw l.length then KX (.tup<|l.take<|ip l.length k) else Sd
noncomputable def digits(n:Sf):R5 Nat:=(toString n).toList.map Char.toNat
noncomputable def insI(x:SK)(l:R5 SK):R5 Int:=S8 [x] (λy l ih=>if x<=y then x::y::l else y::ih) l
def sortI(l:R5 SK):R5 Int:=S8 [] (λx O ih=>insI x ih) l
def intsOf(l:R5 AV):Sh (R5 SK):=S8 (KX []) (λx O ih=>x.bt Sd λi=>ih.map (i::·)) l
noncomputable def gC{β:Type}(l:R5 AV)(f:AV->Sh β):Sh β:=Sp l Sd λx r=>Sp r (f x) λu0 u1=>Sd
def Bc{β:Type}(l:R5 AV)(f:AV->AV->Sh β):Sh β:=Sp l Sd λx r=>gC r<|f x
def gO(b:Bi)(l:R5 AV):Sh AV:=Bi.casesOn b
 (gC l λa=>a.cQ (a.cN Sd λl=>if aw l.length then KX (.int l.length) else Sd) λl=>if aw l.length then KX (.int l.length) else Sd)
 (Bc l λa b=>a.bt Sd λa=>b.bt Sd λb=>KX<|.int (if a<b then b else a))
 (gC l λa=>a.bt (a.bR Sd λb=>KX<|.int (if b then 1 else 0)) λa=>KX<|.int a)
 (gC l λa=>a.bt Sd λk=>if 0<=k/\k<10 then KX (.str<|digits k.toNat) else Sd)
 (gC l λa=>a.cN Sd λl=>if aw l.length then KX (.lst l) else Sd)
 (gC l λa=>a.cN (a.cQ Sd λl=>KX<|.tup l) λl=>if aw l.length then KX (.tup l) else Sd)
 (gC l λa=>a.cN Sd λl=>if l.length<64 then(intsOf l).map λxs=> .lst ((sortI xs).map .int) else Sd)
 (Sp l (KX<|.aQ []) λu0 u1=>Sd)
 (gC l λa=>a.cN Sd λl=>if fh l.length then(intsOf l).map λxs=> .aQ xs else Sd)
theorem J5{l:R5 AV}:gO .sN [.lst l]=if fh l.length then(intsOf l).map λxs=> .aQ xs else none:=rfl
def oN(P:PD)(c x:Sf):Bool:=Sl P.cls[c]? Sj λd=>(fY x d.meths).isNone
def cT(P:PD)(H:Hp)(a:AV)(x:Sf):Sh AV:=a.eC (a.wq (a.ie Sd
 λn=>HE.eC H[n]? Sd λc l=>Sl (cL x l) (mP P.cls[c]? λd=>(fY x d.meths).map λf=> .fJ f n) λs=>s.uF Sd λv=>if oN P c x then KX v else Sd)
 λk=>if x=P.kind then KX (.str k) else Sd) λc l=>if oN P c x then fY x l else Sd
theorem Ed{x:SK}{l:R5 SK}:dF .fi (.int x) (.aQ l)=if cO x&&fh l.length then KX (l.contains x) else none:=rfl
theorem Qa{k:R5 AV}{l:R5 (R5 AV×AV)}:dF .fi (.tup k) (.dT l)=if AV.key 4 (.tup k) then KX (bX k l).isSome else none:=rfl
theorem xX{x y:SK}:fV .mul (.int x) (.int y)=if cO y then KX (.int<|x*y) else none:=rfl
theorem Dg{x y:R5 SK}:fV .sub (.aQ x) (.aQ y)=if fh x.length&&fh y.length then KX (.aQ<|x.filter λk=> !y.contains k) else none:=rfl
theorem wY{l:R5 AV}{k:SK}:ff (.lst l) (.int k)=if 0<=k/\k<big then l[k.toNat]? else none:=rfl
theorem P2{l:R5 AV}{k:SK}:ff (.tup l) (.int k)=if 0<=k/\k<big then l[k.toNat]? else none:=rfl
def Ng(H:Hp)(a:AV):Sh Nat:=a.eC (a.ie Sd λn=>HE.eC H[n]? Sd λc O=>KX c) λc O=>KX c
def xu(H:Hp)(x:Sf)(a:AV):Bool:=a.eC (a.ie R8 λn=>HE.eC H[n]? R8 λu0 l=>(cL x l).isSome) λu0 l=>(fY x l).isSome
def bP(P:PD)(H:Hp)(a:AV)(x:Sf):Sh Nat:=mP (Ng H a) λc=>mP P.cls[c]? λd=>if xu H x a then Sd else fY x d.meths
noncomputable def RT{α:Type}(i:Sf)(v:α)(l:R5 α):R5 α:=l.set i v
def qg(a:AV)(t:R5 AV->Sq):Bool:=a.cQ (a.cN (a.cM (a.bR (a.bt (a.onStr Sj λu0=>R8) λu0=>R8) λu0=>R8) R8) t) t
def DT(d:Sf):R5 AV->Bool:=VA (λu0=>Sj) (λu0 ih l=>l.all λa=>qg a ih) d
def AV.noRef(d:Sf)(a:AV):Bool:=qg a<|DT d
def atom(a:AV):Bool:=a.cM (a.bR (a.bt (a.onStr Sj λu0=>R8) λu0=>R8) λu0=>R8) R8
def atoms(l:R5 AV):Bool:=l.all atom
def P7(a:AV):Bool:=a.cN R8 λl=>Sp l R8 λx O=> !atom x
def Pe(ih:R5 AV->Loc->Sh Loc)(v:AV)(loc:Loc):Sh Loc:=v.cQ (v.cN Sd λvs=>ih vs loc) λvs=>ih vs loc
def gm(t:Tg):AV->Loc->Sh Loc:=Tg.rec (motive_1:=λu0=>AV->Loc->Sh Loc) (motive_2:=λu0=>R5 AV->Loc->Sh Loc)
 (λi v loc=>if i<loc.length then KX (loc.set i<|.fr v) else Sd) (λu0 ih v loc=>Pe ih v loc)
 (λvs loc=>Sp vs (KX loc) λu0 u1=>Sd) (λu0 u1 a b vs loc=>Sp vs Sd λv vs=>mP (a v loc)<|b vs) t
def pE(ts:R5 Tg):R5 AV->Loc->Sh Loc:=Tg.rec_1 (motive_1:=λu0=>AV->Loc->Sh Loc) (motive_2:=λu0=>R5 AV->Loc->Sh Loc)
 (λi v loc=>if i<loc.length then KX (loc.set i<|.fr v) else Sd) (λu0 ih v loc=>Pe ih v loc)
 (λvs loc=>Sp vs (KX loc) λu0 u1=>Sd) (λu0 u1 a b vs loc=>Sp vs Sd λv vs=>mP (a v loc)<|b vs) ts
def fX(loc:Loc)(l:R5 (Sh Sf)):Sh Loc:=S8 (KX []) (λo O ih=>Sl o (ih.map (.un::·)) λj=>mP loc[j]? λs=>s.uF Sd λv=>ih.map (.fr v::·)) l
section
variable(P:PD)(r:Rec)
def cq(l:R5 ME):Loc->Hp->Sh (R5 AV×Hp):=
 S8 (λu0 H=>KX ([],H)) (λe O ih loc H=>bq (r.e e loc H) λv H1=>bq (ih loc H1) λvs H2=>KX (v::vs,H2)) l
noncomputable def ME.KA{β:Type}(m:ME)(d:β)(f:Sf->β):β:=ME.casesOn (motive_1:=λu0=>β) m
  (λu0=>d)
  (f)
  (λu0=>d)
  (λu0=>d)
  (λu0=>d)
  d
  (λu0 u1 u2=>d)
  (λu0=>d)
  (λu0=>d)
  (λu0=>d)
  (λu0=>d)
  (λu0 u1 u2=>d)
  (λu0 u1 u2=>d)
  (λu0 u1 u2=>d)
  (λu0 u1=>d)
  (λu0 u1=>d)
  (λu0 u1=>d)
  (λu0 u1=>d)
  (λu0 u1=>d)
  (λu0 u1=>d)
  (λu0 u1=>d)
  (λu0 u1=>d)
  (λu0 u1 u2=>d)
  (λu0 u1=>d)
  (λu0 u1=>d)
  (λu0 u1 u2 u3 u4=>d)
  (λu0 u1 u2 u3 u4 u5=>d)
  (λu0 u1 u2 u3=>d)
  (λu0 u1 u2=>d)
  (λu0 u1=>d)
  d
def G2(l:R5 ME):Loc->Hp->Sh (R5 AV×Hp):=
 S8 (λu0 H=>KX ([],H)) (λe O ih loc H=>bq (e.KA (r.e e loc H) λi=>cz loc[i]? λs=>s.frozen.map λv=>(v,H)) λv H1=>bq (ih loc H1) λvs H2=>KX (v::vs,H2)) l
def uR(l:R5 ME):Loc->Hp->Sh (AV×Hp):=S8 (λu0 u1=>Sd)
 (λe l ih loc H=>Sp l (r.e e loc H) λu0 u1=>bq (r.e e loc H) λv H1=>v.bR Sd λb=>UI b (ih loc H1)<|KX (.bool Sj,H1)) l
def Aj(l:R5 ME):Loc->Hp->Sh (AV×Hp):=S8 (λu0 u1=>Sd)
 (λe l ih loc H=>Sp l (r.e e loc H) λu0 u1=>bq (r.e e loc H) λv H1=>v.bR Sd λb=>UI b (KX (.bool R8,H1))<|ih loc H1) l
def u9(l:R5 ME):Loc->Hp->Sh (Sq×Hp):=S8 (λu0 H=>KX (R8,H))
 (λe O ih loc H=>bq (r.t e loc H) λb H1=>UI b (ih loc H1)<|KX (Sj,H1)) l
def zL(l:R5 ME):Loc->Hp->Sh (Sq×Hp):=S8 (λu0 H=>KX (Sj,H))
 (λe O ih loc H=>bq (r.t e loc H) λb H1=>UI b (KX (R8,H1))<|ih loc H1) l
noncomputable def fZ(n:SK):R5 AV:=(So n.toNat).map fun(i:Sf)=> .int (i:SK)
noncomputable def jz(k:Sf)(l:R5 AV):R5 AV:=S8 (motive:=λu0=>Sf->R5 AV) (λu0=> []) (λx O ih k=> .tup [.int k,x]::ih (k+1)) l k
def Kh{β:Type}(a:AV)(f:R5 AV->Sh β):Sh β:=a.cQ (a.cN Sd λl=>if aw l.length then f l else Sd) λl=>if aw l.length then f l else Sd
def yE{β:Type}(a:AV)(f:Sh β):Sh β:=a.cQ Sd λl=>Sp l f λu0 u1=>Sd
def abw(s:Src)(loc:Loc)(H:Hp):Sh (R5 AV×Hp):=Src.casesOn (motive_2:=λu0=>Sh<|R5 AV×Hp) s
 (λa=>bq (r.e a loc H) λv H1=>Kh v λl=>KX (l,H1))
 (λa=>bq (r.e a loc H) λv H1=>v.bt Sd λn=>if n<1000/\cO n=R8 then KX (fZ n,H1) else Sd)
 (λa=>bq (r.e a loc H) λv H1=>v.cN Sd λl=>if aw l.length then KX (jz 0 l,H1) else Sd)
 (λa b=>bq (r.e a loc H) λv H1=>yE v<|bq (r.e b loc H1) λw H2=>yE w<|KX ([],H2))
 (λg l=>cz P.bW[g]? λw=>w.wM Sd λf=>bq (G2 r l loc H) λvs H1=>if vs.all (AV.noRef 8) then bq (r.f f vs []) λv H2=>v.cN Sd λl=>Sp H2 (if atoms l&&aw l.length then KX (l,H1) else Sd) (λu0 u1=>Sd) else Sd)
def iM(l:R5 ME):Loc->Hp->Sh (Sq×Hp):=S8 (λu0 H=>KX (R8,H))
 (λe O ih loc H=>bq (r.t e loc H) λb H1=>UI b (ih loc H1)<|KX (Sj,H1)) l
def eA(t:Tg)(ifs:R5 ME)(elt:ME)(xs:R5 AV):R5 AV->Loc->Hp->Sh (R5 AV×Hp):=S8 (λacc O H=>KX (acc,H))
 (λx O ih acc loc H=>cz (gm t x loc) λloc1=>bq (iM r ifs loc1 H) λb H1=>UI b (bq (r.e elt loc1 H1) λv H2=>if aw acc.length then ih (acc++[v]) loc1 H2 else Sd)<|ih acc loc1 H1) xs
theorem kQ{t:Tg}{ifs:R5 ME}{elt:ME}{x v:AV}{xs acc:R5 AV}{loc loc1:Loc}{H H1 H2:Hp}(ht:gm t x loc=KX loc1)(h1:iM r ifs loc1 H=KX (R8,H1))(h2:r.e elt loc1 H1=KX (v,H2))(ho:aw acc.length=R8):eA r t ifs elt (x::xs) acc loc H=eA r t ifs elt xs (acc++[v]) loc1 H2:=bj ht<|aq h1<|aq h2<|Sv ho
theorem w9{t:Tg}{ifs:R5 ME}{elt:ME}{x:AV}{xs acc:R5 AV}{loc loc1:Loc}{H H1:Hp}(ht:gm t x loc=KX loc1)(h1:iM r ifs loc1 H=KX (Sj,H1)):eA r t ifs elt (x::xs) acc loc H=eA r t ifs elt xs acc loc1 H1:=bj ht<|aq h1 rfl
def mw(t:Tg)(elt:ME)(xs:R5 AV):R5 AV->Loc->Hp->Sh (R5 AV×Loc×Hp):=S8 (λacc loc H=>KX (acc,loc,H))
 (λx O ih acc loc H=>cz (gm t x loc) λloc1=>bq (r.e elt loc1 H) λv H2=>if aw acc.length then ih (acc++[v]) loc1 H2 else Sd) xs
def jA(t:Tg)(t2:Tg)(s2:Src)(elt:ME)(xs:R5 AV):R5 AV->Loc->Hp->Sh (R5 AV×Hp):=S8 (λacc O H=>KX (acc,H))
 (λx O ih acc loc H=>cz (gm t x loc) λloc1=>bq (abw P r s2 loc1 H) λys H1=>cz (mw r t2 elt ys acc loc1 H1) λp=>ih p.1 p.2.1 p.2.2) xs
def cK(H:Hp)(n x:Sf):Sh SV:=HE.eC H[n]? Sd λc l=>if oN P c x then cL x l else Sd
def dR(H:Hp)(n x:Sf)(v:SV):Sh Hp:=HE.eC H[n]? Sd λc l=>if l.length<100 then KX (H.set n<|.inst c<|lg x v l) else Sd
def fu(H:Hp)(n x:Sf)(v:SV):Sh Hp:=HE.eC H[n]? Sd λc l=>if l.length<100/\(cL x l).isNone=R8/\oN P c x=R8 then KX (H.set n<|.inst c<|l++[(x,v)]) else Sd
def AW(l:R5 (Sf×SV)):Sh (R5<|Sf×AV):=S8 (KX []) (λp O ih=>p.2.uF Sd λv=>ih.map ((p.1,v)::·)) l
def mF(c:Sf)(vs:R5 AV)(H:Hp):Sh (AV×Hp):=cz P.cls[c]? λd=>bq (r.f d.init (.ref H.length::vs)<|H++[.inst c []]) λv H1=>v.cM Sd
 (UI d.value (HE.eC H1[H.length]? Sd λc' l=>if c'=c then(AW l).map λl'=>(.inst c l',H1.set H.length .dead) else Sd)<|KX (.ref H.length,H1))
def qR{β:Type}(o:Sh SV)(kv:AV)(f:R5 (R5 AV×AV)->R5 AV->Sh β)(g:R5 (SK×AV)->SK->Sh β):Sh β:=
 cz o λs=>s.qR (s.ER Sd λl=>kv.bt Sd λk=>if cO k then g l k else Sd) λl=>kv.cQ Sd λk=>if AV.key 4 (.tup k) then f l k else Sd
def KQ(neg:Sq)(k:ME)(o x:Sf)(loc:Loc)(H:Hp):Sh (Sq×Hp):=bq (r.e k loc H) λkv H1=>qP loc[o]? λw=>w.ie Sd λn=>
 qR (cK P H1 n x) kv (λl k=>KX ((bX k l).isSome !=neg,H1)) λl k=>KX ((ez k l).isSome !=neg,H1)
def PO(m:ME)(loc:Loc)(H:Hp):Sh (AV×Hp):=ME.casesOn (motive_1:=λu0=>Sh<|AV×Hp) m
  (λv=>KX (v,H))
  (λi=>qP loc[i]? λv=>KX (v,H))
  (λi=>(P.bW[i]?).map λv=>(v,H))
  (λl=>(cq r l loc H).map λp=>(.tup p.1,p.2))
  (λl=>(cq r l loc H).map λp=>(.lst p.1,p.2))
  (KX (.dT [],H))
  (λo a b=>bq (r.e a loc H) λx H1=>bq (r.e b loc H1) λy H2=>(fV o x y).map λv=>(v,H2))
  (λa=>bq (r.e a loc H) λx H1=>x.bR Sd λb=>KX (.bool<|!b,H1))
  (λa=>bq (r.e a loc H) λx H1=>x.bt Sd λb=>KX (.int<|-b,H1))
  (λl=>uR r l loc H)
  (λl=>Aj r l loc H)
  (λc a b=>bq (r.t c loc H) λt H1=>r.e (UI t a b) loc H1)
  (λo a b=>bq (r.e a loc H) λx H1=>bq (r.e b loc H1) λy H2=>(dF o x y).map λv=>(.bool v,H2))
  (λa b c=>bq (r.e a loc H) λx H1=>x.bt Sd λx=>bq (r.e b loc H1) λy H2=>y.bt Sd λy=>if x<y then bq (r.e c loc H2) λz H3=>z.bt Sd λz=>KX (.bool<|decide (y<=z),H3) else KX (.bool Sj,H2))
  (λa i=>bq (r.e a loc H) λx H1=>bq (r.e i loc H1) λy H2=>x.ie ((ff x y).map λv=>(v,H2)) λn=>y.bt Sd λk=>HE.tA H2[n]? Sd λl=>if 0<=k/\k<big then(l[k.toNat]?).map λv=>(v,H2) else Sd)
  (λa i=>bq (r.e a loc H) λx H1=>bq (r.e i loc H1) λy H2=>(AK x y).map λv=>(v,H2))
  (λa x=>bq (r.e a loc H) λy H1=>(cT P H1 y x).map λv=>(v,H1))
  (λg l=>cz P.bW[g]? λw=>w.wM Sd λf=>bq (cq r l loc H) λvs H1=>r.f f vs H1)
  (λg l=>cz P.bW[g]? λw=>w.A2 Sd λc=>bq (cq r l loc H) λvs H1=>mF P r c vs H1)
  (λu0 l=>bq (cq r l loc H) λvs H1=>Sp vs Sd λa vs=>Sp vs Sd λb vs=>Sp vs Sd λu0 vs=>gC vs λd=>a.onStr Sd λk=>b.onStr Sd λm=>d.cQ (d.cN Sd λrs=>if aw (k.length+2)&&aw m.length&&aw rs.length then KX (.m9 k,H1) else Sd) λrs=>if aw (k.length+2)&&aw m.length&&aw rs.length then KX (.m9 k,H1) else Sd)
  (λb l=>bq (cq r l loc H) λvs H1=>(gO b vs).map λv=>(v,H1))
  (λi l=>qP loc[i]? λw=>w.Cp Sd λf n=>bq (cq r l loc H) λvs H1=>r.f f (.ref n::vs) H1)
  (λa x l=>bq (r.e a loc H) λo H1=>cz (bP P H1 o x) λf=>bq (cq r l loc H1) λvs H2=>r.f f (o::vs) H2)
  (λa l=>bq (r.e a loc H) λw H1=>w.pb Sd λm=>bq (cq r l loc H1) λvs H2=>Sp vs Sd λkv vs=>kv.cQ Sd λk=>Sp vs (if AV.key 4 (.tup k) then KX ((bX k m).getD .none,H2) else Sd) λd vs=>Sp vs (if AV.key 4 (.tup k) then KX ((bX k m).getD d,H2) else Sd) λu0 u1=>Sd)
  (λa b=>bq (r.e a loc H) λv H1=>yE v<|bq (r.e b loc H1) λw H2=>yE w<|KX (.lj,H2))
  (λcap t s ifs elt=>bq (abw P r s loc H) λxs H1=>cz (fX loc cap) λloc1=>(eA r t ifs elt xs [] loc1 H1).map λp=>(.lst p.1,p.2))
  (λcap t s t2 s2 elt=>bq (abw P r s loc H) λxs H1=>cz (fX loc cap) λloc1=>(jA P r t t2 s2 elt xs [] loc1 H1).map λp=>(.lst p.1,p.2))
  (λneg k o x=>(KQ P r neg k o x loc H).map λp=>(.bool p.1,p.2))
  (λo x k=>qP loc[o]? λw=>w.ie Sd λn=>if(cK P H n x).isNone then Sd else bq (r.e k loc H) λkv H1=>qR (cK P H1 n x) kv (λl k=>(bX k l).map λv=>(v,H1)) λl k=>(ez k l).map λv=>(v,H1))
  (λo x=>qP loc[o]? λw=>w.ie Sd λn=>cz (cK P H n x) λs=>s.j6 Sd λl=>if aw l.length then KX (.int l.length,H) else Sd)
  Sd
def PJ(m:ME)(loc:Loc)(H:Hp):Sh (Sq×Hp):=ME.casesOn (motive_1:=λu0=>Sh<|Sq×Hp) m
  (λu0=>(bq (r.e m loc H) λv H1=>v.bR Sd λb=>KX (b,H1)))
  (λu0=>(bq (r.e m loc H) λv H1=>v.bR Sd λb=>KX (b,H1)))
  (λu0=>(bq (r.e m loc H) λv H1=>v.bR Sd λb=>KX (b,H1)))
  (λu0=>(bq (r.e m loc H) λv H1=>v.bR Sd λb=>KX (b,H1)))
  (λu0=>(bq (r.e m loc H) λv H1=>v.bR Sd λb=>KX (b,H1)))
  (bq (r.e m loc H) λv H1=>v.bR Sd λb=>KX (b,H1))
  (λu0 u1 u2=>(bq (r.e m loc H) λv H1=>v.bR Sd λb=>KX (b,H1)))
  (λa=>(r.t a loc H).map λp=>(!p.1,p.2))
  (λu0=>(bq (r.e m loc H) λv H1=>v.bR Sd λb=>KX (b,H1)))
  (λl=>u9 r l loc H)
  (λl=>zL r l loc H)
  (λc a b=>bq (r.t c loc H) λt H1=>r.t (UI t a b) loc H1)
  (λo a b=>bq (r.e a loc H) λx H1=>bq (r.e b loc H1) λy H2=>(dF o x y).map λv=>(v,H2))
  (λu0 u1 u2=>Sd)
  (λu0 u1=>(bq (r.e m loc H) λv H1=>v.bR Sd λb=>KX (b,H1)))
  (λu0 u1=>(bq (r.e m loc H) λv H1=>v.bR Sd λb=>KX (b,H1)))
  (λu0 u1=>(bq (r.e m loc H) λv H1=>v.bR Sd λb=>KX (b,H1)))
  (λu0 u1=>(bq (r.e m loc H) λv H1=>v.bR Sd λb=>KX (b,H1)))
  (λu0 u1=>(bq (r.e m loc H) λv H1=>v.bR Sd λb=>KX (b,H1)))
  (λu0 u1=>(bq (r.e m loc H) λv H1=>v.bR Sd λb=>KX (b,H1)))
  (λu0 u1=>(bq (r.e m loc H) λv H1=>v.bR Sd λb=>KX (b,H1)))
  (λu0 u1=>(bq (r.e m loc H) λv H1=>v.bR Sd λb=>KX (b,H1)))
  (λu0 u1 u2=>(bq (r.e m loc H) λv H1=>v.bR Sd λb=>KX (b,H1)))
  (λu0 u1=>(bq (r.e m loc H) λv H1=>v.bR Sd λb=>KX (b,H1)))
  (λu0 u1=>(bq (r.e m loc H) λv H1=>v.bR Sd λb=>KX (b,H1)))
  (λu0 u1 u2 u3 u4=>(bq (r.e m loc H) λv H1=>v.bR Sd λb=>KX (b,H1)))
  (λu0 u1 u2 u3 u4 u5=>(bq (r.e m loc H) λv H1=>v.bR Sd λb=>KX (b,H1)))
  (λneg k o x=>KQ P r neg k o x loc H)
  (λu0 u1 u2=>(bq (r.e m loc H) λv H1=>v.bR Sd λb=>KX (b,H1)))
  (λu0 u1=>(bq (r.e m loc H) λv H1=>v.bR Sd λb=>KX (b,H1)))
  (bq (r.e m loc H) λv H1=>v.bR Sd λb=>KX (b,H1))
def bO(l:R5 MS):Loc->Hp->Sh (Fl×Loc×Hp):=S8 (λloc H=>KX (.nx,loc,H))
 (λs O ih loc H=>qQ (r.s s loc H) λfl loc1 H1=>Fl.casesOn fl (ih loc1 H1) (KX (.ct,loc1,H1)) λv=>KX (.rt v,loc1,H1)) l
def forL(t:Tg)(b:R5 MS)(xs:R5 AV):Loc->Hp->Sh (Fl×Loc×Hp):=S8 (λloc H=>KX (.nx,loc,H))
 (λx O ih loc H=>cz (gm t x loc) λloc1=>qQ (bO r b loc1 H) λfl loc2 H2=>Fl.casesOn fl (ih loc2 H2) (ih loc2 H2) λv=>KX (.rt v,loc2,H2)) xs
def m7(test:Loc->Hp->Sh (Sq×Hp))(b:R5 MS)(k:Sf):Loc->Hp->Sh (Fl×Loc×Hp):=VA (motive:=λu0=>Loc->Hp->Sh (Fl×Loc×Hp)) (λu0 u1=>Sd)
 (λu0 ih loc H=>bq (test loc H) λt H1=>UI t (qQ (bO r b loc H1) λfl loc2 H2=>Fl.casesOn fl (ih loc2 H2) (ih loc2 H2) λv=>KX (.rt v,loc2,H2))<|KX (.nx,loc,H1)) k
theorem Hi{test:Loc->Hp->Sh (Sq×Hp)}{b:R5 MS}{k:Sf}{loc:Loc}{H H1:Hp}(h:test loc H=KX (Sj,H1)):m7 r test b (k+1) loc H=KX (.nx,loc,H1):=aq h rfl
theorem Hm{test:Loc->Hp->Sh (Sq×Hp)}{b:R5 MS}{k:Sf}{loc loc2:Loc}{H H1 H2:Hp}(h:test loc H=KX (R8,H1))(h2:bO r b loc H1=KX (.nx,loc2,H2)):m7 r test b (k+1) loc H=m7 r test b k loc2 H2:=aq h<|g7 h2 rfl
theorem QF{t:Tg}{b:R5 MS}{x:AV}{xs:R5 AV}{loc loc1 loc2:Loc}{H H2:Hp}(h1:gm t x loc=KX loc1)(h2:bO r b loc1 H=KX (.nx,loc2,H2)):forL r t b (x::xs) loc H=forL r t b xs loc2 H2:=bj h1<|g7 h2 rfl
noncomputable def kq(d:iO)(vs:R5 AV):Sh (R5 AV):=
 if vs.length<=d.ar/\d.ar<=vs.length+d.dfl.length then KX (vs++d.dfl.drop (d.dfl.length-(d.ar-vs.length))) else Sd
noncomputable def ME.OO{β:Type}(m:ME)(d:β)(f:R5 ME->β):β:=by
 induction m using ME.casesOn with
 |lst l=>exact f l
 |_=>exact d
noncomputable def MS.Hr{β:Type}(m:MS)(d:β)(f:ME->β):β:=by
 induction m using MS.casesOn with
 |ret e=>exact f e
 |_=>exact d
def MS.xj{β:Type}(m:Sh MS)(f:R5 ME->Sh β):Sh β:=cz m λm=>m.Hr Sd λe=>e.OO Sd f
def Be(f:Sf)(vs:R5 AV)(H:Hp):Sh (R5 AV×Hp):=cz P.fns[f]? λd=>cz (kq d vs) λvs'=>MS.xj d.body.getLast? λes=>
 qQ (bO r d.body.dropLast (vs'.map .fr++S9 (d.fH-d.ar) .un) H) λfl loc1 H1=>Fl.casesOn fl (cq r es loc1 H1) Sd λu0=>Sd
noncomputable def fM(loc:Loc)(i:Sf)(v:SV):Sh Loc:=if i<loc.length then KX (loc.set i v) else Sd
noncomputable def qG(loc:Loc)(i:Sf)(v:SV)(H:Hp):Sh (Fl×Loc×Hp):=(fM loc i v).map λloc1=>(.nx,loc1,H)
noncomputable def qD(loc:Loc)(H:Sh Hp):Sh (Fl×Loc×Hp):=H.map λH=>(.nx,loc,H)
def lM(o:ME)(loc:Loc)(H:Hp)(f:Sf->Hp->Sh (Fl×Loc×Hp)):Sh (Fl×Loc×Hp):=bq (r.e o loc H) λw H1=>w.ie Sd λn=>f n H1
def rA(o:ME)(loc:Loc)(H:Hp)(f:SK->Hp->Sh (Fl×Loc×Hp)):Sh (Fl×Loc×Hp):=bq (r.e o loc H) λw H1=>w.bt Sd λn=>f n H1
def O8(m:MS)(loc:Loc)(H:Hp):Sh (Fl×Loc×Hp):=MS.casesOn (motive_1:=λu0=>Sh<|Fl×Loc×Hp) m
  (λe=>(r.e e loc H).map λp=>(.rt p.1,loc,p.2))
  (KX (.rt .none,loc,H))
  (λe=>(r.e e loc H).map λp=>(.nx,loc,p.2))
  (λi e=>bq (r.e e loc H) λv H1=>qG loc i (.fr v) H1)
  (λt e=>bq (r.e e loc H) λv H1=>(gm t v loc).map λloc1=>(.nx,loc1,H1))
  (λi l=>bq (cq r l loc H) λvs H1=>qG loc i (.ml vs) H1)
  (λi e=>bq (r.e e loc H) λw H1=>w.cN Sd λvs=>qG loc i (.ml vs) H1)
  (λi a n=>bq (r.e a loc H) λv H1=>rA r n loc H1 λk H2=>if k=1 then qG loc i (.ml [v]) H2 else if k=0 then qG loc i (.ml []) H2 else Sd)
  (λi=>qG loc i (.mT []) H)
  (λi j a b=>bq (cq r a loc H) λvs H1=>bq (cq r b loc H1) λws H2=>cz (fM loc i<|.ml vs) λloc1=>if i=j then Sd else qG loc1 j (.ml ws) H2)
  (λi j g l e=>cz P.bW[g]? λw=>w.wM Sd λf=>bq (cq r l loc H) λvs H1=>bq (Be P r f vs H1) λxs H2=>bq (r.e e loc<|H2++[.box xs]) λv H3=>cz (fM loc i<|.fr<|.ref H2.length) λloc1=>if i=j then Sd else qG loc1 j (.fr v) H3)
  (λo x e=>bq (r.e e loc H) λv H1=>lM r o loc H1 λn H2=>qD loc<|fu P H2 n x<|.fr v)
  (λo x nest=>lM r o loc H λn H1=>qD loc<|fu P H1 n x<|UI nest (.hY [])<|.ml [])
  (λo x k=>lM r o loc H λn H1=>qD loc<|fu P H1 n x<|DK.casesOn k (.mT []) (.mI [])<|.mS [])
  (λi e=>bq (r.e e loc H) λv H1=>cz loc[i]? λs=>s.j6 Sd λl=>if aw l.length then KX (.nx,loc.set i<|.ml<|l++[v],H1) else Sd)
  (λi e=>bq (r.e e loc H) λw H1=>w.cN Sd λvs=>cz loc[i]? λs=>s.j6 Sd λl=>if aw l.length&&aw vs.length then KX (.nx,loc.set i<|.ml<|l++vs,H1) else Sd)
  (λj i=>cz loc[i]? λs=>s.j6 Sd λl=>cz l.getLast? λv=>if i=j\/aw l.length=Sj then Sd else qG (loc.set i<|.ml l.dropLast) j (.fr v) H)
  (λi k e=>bq (r.e e loc H) λv H1=>rA r k loc H1 λk H2=>cz loc[i]? λs=>s.j6 Sd λl=>if 0<=k/\k.toNat<l.length/\l.length<2000 then KX (.nx,loc.set i<|.ml<|l.set k.toNat v,H2) else Sd)
  (λi k e=>bq (r.e e loc H) λv H1=>bq (r.e k loc H1) λw H2=>w.cQ Sd λk=>cz loc[i]? λs=>s.qR Sd λl=>if AV.key 4 (.tup k)&&aw l.length then KX (.nx,loc.set i<|.mT<|hG k v l,H2) else Sd)
  (λo x e=>lM r o loc H λn H1=>cz (cK P H1 n x) λs=>s.j6 Sd λu0=>bq (r.e e loc H1) λv H2=>cz (cK P H2 n x) λs=>s.j6 Sd λl=>if aw l.length then qD loc (dR H2 n x<|.ml<|l++[v]) else Sd)
  (λo x=>lM r o loc H λn H1=>cz (cK P H1 n x) λs=>s.wt Sd λl=>if aw l.length then qD loc (dR H1 n x<|.hY<|l++[[]]) else Sd)
  (λo x k e=>lM r o loc H λn H1=>rA r k loc H1 λk H2=>bq (r.e e loc H2) λv H3=>cz (cK P H3 n x) λs=>s.wt Sd λl=>cz (if 0<=k/\k<big then l[k.toNat]? else Sd) λm=>if aw m.length then qD loc (dR H3 n x<|.hY<|l.set k.toNat<|m++[v]) else Sd)
  (λo x k e=>bq (r.e e loc H) λv H1=>lM r o loc H1 λn H2=>bq (r.e k loc H2) λkv H3=>cz (cK P H3 n x) λs=>s.qR (s.ER (s.My Sd λl=>kv.onStr Sd λk=>if aw l.length then qD loc (dR H3 n x<|.mS<|ux k v l) else Sd) λl=>kv.bt Sd λk=>if cO k&&aw l.length then qD loc (dR H3 n x<|.mI<|iF k v l) else Sd) λl=>kv.cQ Sd λk=>if AV.key 4 (.tup k)&&aw l.length then qD loc (dR H3 n x<|.mT<|hG k v l) else Sd)
  (λi k e=>bq (r.e e loc H) λv H1=>qP loc[i]? λw=>w.ie Sd λn=>rA r k loc H1 λk H2=>HE.tA H2[n]? Sd λl=>if 0<=k/\k.toNat<l.length/\l.length<2000 then KX (.nx,loc,H2.set n<|.box<|l.set k.toNat v) else Sd)
  (λi e=>qP loc[i]? λw=>w.bt Sd λx=>rA r e loc H λy H1=>KX (.nx,loc.set i<|.fr<|.int<|x-y,H1))
  (λc t e=>bq (r.t c loc H) λb H1=>bO r (UI b t e) loc H1)
  (λc b=>m7 r (r.t c) b 100 loc H)
  (λi b=>m7 r (λloc H=>cz loc[i]? λs=>s.j6 Sd λl=>if l.all (AV.plain 7) then KX (!l.isEmpty,H) else Sd) b 100 loc H)
  (λt s b=>bq (abw P r s loc H) λxs H1=>forL r t b xs loc H1)
  (KX (.ct,loc,H))
  (λi=>qG loc i (.fr .lj) H)
  (λi=>cz loc[i]? λs=>s.frozen.map λv=>(.nx,loc.set i<|.fr v,H))
  (λo x=>lM r o loc H λn H1=>cz (cK P H1 n x) λs=>cz s.frozen λv=>qD loc<|dR H1 n x<|.fr v)
  Sd
def OP(f:Sf)(vs:R5 AV)(H:Hp):Sh (AV×Hp):=cz P.fns[f]? λd=>cz (kq d vs) λvs'=>
 qQ (bO r d.body (vs'.map .fr++S9 (d.fH-d.ar) .un) H) λfl O H1=>Fl.casesOn fl (KX (.none,H1)) Sd λv=>KX (v,H1)
def step:Rec:={e:=PO P r,t:=PJ P r,s:=O8 P r,f:=OP P r}
end
noncomputable def bot:Rec:={e:=λu0 u1 u2=>Sd,t:=λu0 u1 u2=>Sd,s:=λu0 u1 u2=>Sd,f:=λu0 u1 u2=>Sd}
def ev(P:PD)(n:Sf):Rec:=VA bot (λu0 r=>step P r) n
end
end
noncomputable section
open PySem PySem.W PySem.Spec PySem.Calls PyProof.Rows
variable{W W' aj W₀ aT W'':Wd}{n k j c f ep k1 jn k2 c':Sf}{S:bf}{s ai s':Sn}{A:Vj}{E Q G:Se->Sn->Prop}{tb:gh}{T:cU}{ks:R5 (SS×VK)}{env:Xz}{P:PD}{loc loc':Loc}{r:Rec}{H H' H1 H2:Hp}{a d C D I ax tp l1 TI TO i1 i2:SJ}{p pos p' p1 p2 ap p3 p0 p6:Vu}{v q u it:Se}{l vs xs acc vs':R5 AV}{sv sv0 sv':SV}{ℓ abx:aF}{es:R5 Sk}{y e tg z el ox fE it2 it1:SE}{prog:Wm}{w:Yd}{fl:Fl}{b neg:Sq}{α β:Type}{o:Xl}{t tk:Tok}{K K':SK->Prop}{M:Model}{us ws:R5 Se}{as:R5 SJ}{sc:Xk}{R:ZG->Sn->Prop}{h' B:Tu}{Φ Φ':Wd->Prop}{es':Td (SK×Se)}{cap:R5 (Sh Sf)}{t':Uk}{kk elt:ME}{mA:SS->Sh Se}{name at' nm:SS}{ℓk:Sf->aF}{vk:VK}{J:Sf->Wd->Prop}{Jm:Sf->Se->Wd->Prop}{ts cs:R5 SE}{Z:Prop}{bb sts:R5 T1}{src:Src}{newId:WO}{ifs:R5 ME}
structure cU where
 base:Tu
 K:Wz
 mg:SS->Sh Se
 mb:SS->Sh Se
 tp:SJ
 tc:SJ
structure Wd.Mv(L:aF->Prop)(W W':Wd):Prop where
 keep:∀a o,W.h.get? a=KX o->(∀ℓ,W.ah a=KX ℓ->¬L ℓ)->W'.h.get? a=KX o
 ah:∀a o,W.h.get? a=KX o->W'.ah a=W.ah a
 dq:W'.ρ=W.ρ
 N:W'.N=W.N
theorem M6{L:aF->Prop}{a:SJ}(l:W.ah a=Sd)(ℓ:aF)(e:W.ah a=KX ℓ):¬L ℓ:=au<|l.symm.trans e
theorem L8{L:aF->Prop}{a:SJ}(l:W.ah a=KX ℓ)(n:¬L ℓ)(ℓ':aF)(e:W.ah a=KX ℓ'):¬L ℓ':=R9 (l.symm.trans e)▸n
section
variable{L:aF->Prop}(m:W.Mv L W')
include m
theorem Wd.Mv.tK{a:SJ}(e:W.h.get? a=KX o)(l:W.ah a=Sd):W'.h.get? a=KX o:=m.keep a o e<|M6 l
theorem Wd.Mv.mU{a:SJ}(e:W.h.get? a=KX o)(l:W.ah a=KX ℓ)(n:¬L ℓ):W'.h.get? a=KX o:=m.keep a o e<|L8 l n
theorem Wd.Mv.le(h1:¬L .out):W.Le W' where
 keep:=λu0 u1 e l=>m.tK e l
 free:=λa o e l=>(m.ah a o e).trans l
 out:=λa o e l=>(m.ah a o e).trans l
 outk:=λu0 u1 e l=>m.mU e l h1
 dq:=λn O=>U0 m.dq n
 N:=SA m.N.symm
end
structure Wd.Kp(P:aF->Prop)(W W':Wd):Prop extends Wd.Fe W W' where
 lk:∀a o ℓ,P ℓ->W.h.get? a=KX o->W.ah a=KX ℓ->W'.h.get? a=KX o/\W'.ah a=KX ℓ
theorem Wd.Kp.weaken{P P':aF->Prop}(k:W.Kp P W')(h:∀ℓ,P' ℓ->P ℓ):W.Kp P' W':=⟨k.toFe,λa o ℓ p=>k.lk a o ℓ<|h ℓ p⟩
theorem Wd.Kp.trans{P:aF->Prop}(x:W.Kp P W')(y:W'.Kp P W''):W.Kp P W'':=
 ⟨x.toFe.trans y.toFe,λa o ℓ p e l=>have q:=x.lk a o ℓ p e l;y.lk a o ℓ p q.1 q.2⟩
theorem Wd.Mv.kp{L P:aF->Prop}(m:W.Mv L W')(h1:¬L .out)(h:∀ℓ,P ℓ->¬L ℓ):W.Kp P W':=
 ⟨(m.le h1).toFe,λa o ℓ p e l=>⟨m.mU e l<|h ℓ p,(m.ah a o e).trans l⟩⟩
theorem Wd.Mv.lA{L:aF->Prop}(m:W.Mv L W')(h1:¬L .out):W.Kp (λℓ=>¬L ℓ) W':=m.kp h1 λu0 h=>h
theorem Wd.Mv.weaken{L L':aF->Prop}(m:W.Mv L W')(h:∀ℓ,L ℓ->L' ℓ):W.Mv L' W':=
 {m with keep:=λa o e n=>m.keep a o e λℓ el q=>n ℓ el (h ℓ q)}
theorem Wd.Mv.refl(L:aF->Prop)(W:Wd):W.Mv L W:=⟨λu0 u1 e u2=>e,λu0 u1 u2=>rfl,rfl,rfl⟩
noncomputable abbrev iz:aF->Prop:=λu0=>Ue
theorem bz{h:Tu}{a:SJ}(ha:h.objs.size<=a):h.get? a=none:=
 Option.eq_none_iff_forall_ne_some.mpr λu0 e=>TL (TR e)<|Nat.not_lt.mpr ha
noncomputable def Wd.grow(W:Wd)(h:Tu):Wd:={W with h:=h,ah:=λb=>if(W.h.get? b).isSome then W.ah b else Sd}
noncomputable def Wd.gI(W:Wd)(h:Tu)(a:SJ)(ℓ:aF):Wd:={W with h:=h,ah:=λb=>if b=a then KX ℓ else if(W.h.get? b).isSome then W.ah b else Sd}
theorem Wd.sI{h:Tu}{a:SJ}(e:W.h.get? a=KX o):(W.grow h).ah a=W.ah a:=Sv<|e▸rfl
theorem Wd.mM{h:Tu}{L:aF->Prop}(k:∀a o,W.h.get? a=KX o->(∀ℓ,W.ah a=KX ℓ->¬L ℓ)->h.get? a=KX o):W.Mv L (W.grow h):=
 ⟨k,λu0 u1 e=>Wd.sI e,rfl,rfl⟩
theorem Wd.gF{h:Tu}(k:∀a o,W.h.get? a=KX o->h.get? a=KX o):W.Mv iz (W.grow h):=Wd.mM λa o e O=>k a o e
theorem Wd.d6{h:Tu}{a:SJ}(ha:W.h.get? a=Sd):(W.grow h).ah a=none:=SI<|ha▸SR
theorem Wd.p8{h:Tu}{a:SJ}(k:∀a o,W.h.get? a=KX o->h.get? a=KX o)(ha:W.h.get? a=Sd):W.Mv iz (W.gI h a ℓ):=
 ⟨λa o e O=>k a o e,λb o e=>(SI λq=>au<|ha.symm.trans (q▸e)).trans<|Sv<|e▸rfl,rfl,rfl⟩
theorem Wd.mJ{h:Tu}{a:SJ}:(W.gI h a ℓ).ah a=KX ℓ:=Sv rfl
theorem Wd.fG{h:Tu}{a:SJ}(hl:W.ah a=KX ℓ)(hs:SO a W.h h):W.Mv (·=ℓ) (W.grow h):=
 Wd.mM λb o e n=>(hs.2 b λq=>n ℓ (q▸hl) rfl).trans e
inductive og(W:Wd)(ℓ:aF)(R:R5 Se->Prop):Se->Prop
 |mk {a:SJ} {vs:R5 Se} {n:Sf}:W.ah a=KX ℓ->W.h.get? a=KX (aE vs n)->R vs->og W ℓ R (.ref a)
inductive oH(W:Wd)(ℓ:aF)(nd:Prop)(R:R5 Sk->Prop):Se->Prop
 |mk {a:SJ} {es:R5 Sk} {n:Sf}:W.ah a=KX ℓ->W.h.get? a=KX (aI es n)->R es->nd->(a==UA)=Sj->oH W ℓ nd R (.ref a)
inductive tH(W:Wd)(ℓ:aF)(nd:Prop)(R:R5 Sk->Prop):Se->Prop
 |mk {a:SJ} {es:R5 Sk} {n:Sf}:W.ah a=KX ℓ->W.h.get? a=KX (aI es n)->R es->nd->tH W ℓ nd R (.ref a)
inductive pM(S:bf)(W:Wd)(ℓk:Sf->aF)(vs:R5 Se)(k:Sf)(m:R5 AV):Prop
 |mk (b:SJ) (ws:R5 Se) (j:Sf):vs[k]? =KX (.ref b)->W.ah b=KX (ℓk k)->W.h.get? b=KX (aE ws j)->aA S W ws m->pM S W ℓk vs k m
structure pN(S:bf)(W:Wd)(ℓk:Sf->aF)(l:R5 (R5 AV))(vs:R5 Se):Prop where
 len:vs.length=l.length
 at_:∀k m,l[k]? =KX m->pM S W ℓk vs k m
def bV(S:bf)(W:Wd)(ℓ:aF)(ℓk:Sf->aF)(v:Se)(sv:SV):Prop:=SV.casesOn sv Ue (λx=>RV S W v x) (λl=>og W ℓ (λvs=>aA S W vs l) v) (λl=>og W ℓ (pN S W ℓk l) v)
 (λl=>oH W ℓ (l.map (·.1)).Nodup (λes=>df S W es l) v) (λl=>oH W ℓ (l.map (·.1)).Nodup (λes=>eQ S W es l) v) (λl=>tH W ℓ (l.map (·.1)).Nodup (λes=>eW S W es l) v)
section
theorem bV.fr{x:AV}(r:RV S W v x):bV S W ℓ ℓk v (.fr x):=r
theorem bV.ml{a:SJ}{vs:R5 Se}(h:W.ah a=KX ℓ)(e:W.h.get? a=KX (aE vs n))(r:aA S W vs l):bV S W ℓ ℓk (.ref a) (.ml l):=og.mk h e r
theorem bV.hY{a:SJ}{vs:R5 Se}{l:R5 (R5 AV)}(h:W.ah a=KX ℓ)(e:W.h.get? a=KX (aE vs n))(r:vs.length=l.length)(r':∀k m,l[k]? =KX m->pM S W ℓk vs k m):bV S W ℓ ℓk (.ref a) (.hY l):=og.mk h e ⟨r,r'⟩
theorem bV.mT{a:SJ}{l:R5 (R5 AV×AV)}(h:W.ah a=KX ℓ)(e:W.h.get? a=KX (aI es n))(r:df S W es l)(nd:(l.map (·.1)).Nodup)(ne:(a==UA)=Sj):bV S W ℓ ℓk (.ref a) (.mT l):=oH.mk h e r nd ne
theorem bV.mI{a:SJ}{l:R5 (SK×AV)}(h:W.ah a=KX ℓ)(e:W.h.get? a=KX (aI es n))(r:eQ S W es l)(nd:(l.map (·.1)).Nodup)(ne:(a==UA)=Sj):bV S W ℓ ℓk (.ref a) (.mI l):=oH.mk h e r nd ne
theorem bV.mS{a:SJ}{l:R5 (R5 Sf×AV)}(h:W.ah a=KX ℓ)(e:W.h.get? a=KX (aI es n))(r:eW S W es l)(nd:(l.map (·.1)).Nodup):bV S W ℓ ℓk (.ref a) (.mS l):=tH.mk h e r nd
variable{P:Se->Prop}
@[elab_as_elim] theorem bV.wO (r:bV S W ℓ ℓk u (.ml l)) (k:∀a vs n,W.ah a=KX ℓ->W.h.get? a=KX (aE vs n)->aA S W vs l->P (.ref a)):P u:=og.casesOn r<|k _ _ _
@[elab_as_elim] theorem bV.By {l:R5 (R5 AV)} (r:bV S W ℓ ℓk u (.hY l)) (k:∀a vs n,W.ah a=KX ℓ->W.h.get? a=KX (aE vs n)->pN S W ℓk l vs->P (.ref a)):P u:=og.casesOn r<|k _ _ _
@[elab_as_elim] theorem bV.yC {l:R5 (R5 AV×AV)} (r:bV S W ℓ ℓk u (.mT l)) (k:∀a es n,W.ah a=KX ℓ->W.h.get? a=KX (aI es n)->df S W es l->(l.map (·.1)).Nodup->(a==UA)=Sj->P (.ref a)):P u:=oH.casesOn r<|k _ _ _
@[elab_as_elim] theorem bV.zC {l:R5 (SK×AV)} (r:bV S W ℓ ℓk u (.mI l)) (k:∀a es n,W.ah a=KX ℓ->W.h.get? a=KX (aI es n)->eQ S W es l->(l.map (·.1)).Nodup->(a==UA)=Sj->P (.ref a)):P u:=oH.casesOn r<|k _ _ _
@[elab_as_elim] theorem bV.Mr {l:R5 (R5 Sf×AV)} (r:bV S W ℓ ℓk u (.mS l)) (k:∀a es n,W.ah a=KX ℓ->W.h.get? a=KX (aI es n)->eW S W es l->(l.map (·.1)).Nodup->P (.ref a)):P u:=tH.casesOn r<|k _ _ _
variable{L:aF->Prop}(m:W.Kp L W')(h2:L ℓ)
include m h2
theorem og.kp{R R':R5 Se->Prop}(h:∀vs,R vs->R' vs)(r:og W ℓ R u):og W' ℓ R' u:=og.casesOn r λa b c=>have q:=m.lk _ _ _ h2 b a;.mk q.2 q.1 (h _ c)
theorem oH.kp{nd:Prop}{R R':R5 Sk->Prop}(h:∀vs,R vs->R' vs)(r:oH W ℓ nd R u):oH W' ℓ nd R' u:=oH.casesOn r λa b c d e=>have q:=m.lk _ _ _ h2 b a;.mk q.2 q.1 (h _ c) d e
theorem tH.kp{nd:Prop}{R R':R5 Sk->Prop}(h:∀vs,R vs->R' vs)(r:tH W ℓ nd R u):tH W' ℓ nd R' u:=tH.casesOn r λa b c d=>have q:=m.lk _ _ _ h2 b a;.mk q.2 q.1 (h _ c) d
theorem bV.kp{x:SV}(h3:∀k,L<|ℓk k)(r:bV S W ℓ ℓk u x):bV S W' ℓ ℓk u x:=
 SV.casesOn x (λr=>r) (λu0 r=>RV.bE m.toFe r) (λu0 r=>og.kp m h2 (λu0=>aA.bE m.toFe) r)
  (λu0 r=>og.kp m h2 (λu0 q=>⟨q.len,λk l hl=>pM.casesOn (q.at_ k l hl) λb ws j e1 e2 e3 e4=>have z:=m.lk _ _ _ (h3 k) e3 e2;⟨b,ws,j,e1,z.2,z.1,e4.bE m.toFe⟩⟩) r)
  (λu0 r=>oH.kp m h2 (λu0=>df.bE m.toFe) r) (λu0 r=>oH.kp m h2 (λu0=>eQ.bE m.toFe) r) (λu0 r=>tH.kp m h2 (λu0=>eW.bE m.toFe) r) r
omit m h2
theorem bV.mv{x:SV}(m:W.Mv L W')(h1:¬L .out)(h2:¬L ℓ)(h3:∀k,¬L (ℓk k))(r:bV S W ℓ ℓk u x):bV S W' ℓ ℓk u x:=r.kp (m.lA h1) h2 h3
end
def bY(S:bf)(W:Wd)(n:Sf)(es:R5 Sk)(l:R5 (Sf×SV)):Prop:=
 S8 (motive:=λu0=>R5 Sk->Prop) (λes=>es=[]) (λp l ih es=>cL p.1 l=Sd/\aG (iP S p.1 λv=>bV S W (.ha n p.1) (.hk n p.1) v p.2) ih es) l es
section
theorem bY.nil:bY S W n [] []:=rfl
theorem bY.cons{i:Sf}{x:SV}{l:R5 (Sf×SV)}(h:cL i l=Sd)(r:bV S W (.ha n i) (.hk n i) v x)(rs:bY S W n es l):
   bY S W n (⟨Tw S.w.params<|S.nm i,.str (S.nm i) t,v⟩::es) ((i,x)::l):=⟨h,.mk (.mk r) rs⟩
@[elab_as_elim] theorem bY.bN {P:R5 Sk->Prop} (h:bY S W n es []) (k:P []):P es:= @V0 _ _ (λv O=>P v) k _<|Wf h
@[elab_as_elim] theorem bY.aU {P:R5 Sk->Prop} {p:Sf×SV} {l:R5 (Sf×SV)} (h:bY S W n es (p::l)) (k:∀t v es,cL p.1 l=Sd->bV S W (.ha n p.1) (.hk n p.1) v p.2->bY S W n es l->P (⟨Tw S.w.params<|S.nm p.1,.str (S.nm p.1) t,v⟩::es)):P es:=
 aG.casesOn h.2 λa=>iP.casesOn a λr b=>k _ _ _ h.1 r b
theorem bY.kp{L:aF->Prop}(m:W.Kp L W')(h2:∀i,L<|.ha n i)(h3:∀i k,L<|.hk n i k){l:R5 (Sf×SV)}:∀{es:R5 Sk},bY S W n es l->bY S W' n es l:=
 S8 (motive:=λl=>∀{es:R5 Sk},bY S W n es l->bY S W' n es l) id (λp l ih O r=>r.aU λu0 u1 u2 z a b=>bY.cons z (a.kp m (h2 _)<|h3 _)<|ih b) l
theorem bY.length{l:R5 (Sf×SV)}:∀{es:R5 Sk},bY S W n es l->es.length=l.length:=
 S8 (motive:=λl=>∀{es:R5 Sk},bY S W n es l->es.length=l.length) (λr=>r.bN rfl) (λu0 l ih u1 r=>r.aU λu0 u1 u2 u3 u4 b=>R6 (·+1)<|ih b) l
end
inductive hV(S:bf)(W:Wd)(n c:Sf)(l:R5 (Sf×SV)):Prop
 |mk (d:SJ) (sl:Td (Sh Se)) (es:R5 Sk) (k:Sf):W.h.get? (W.ρ n)=KX (eE (S.cls c) d sl)->W.ah (W.ρ n)=Sd->W.ah d=KX (.hd n)->W.h.get? d=KX (aI es k)->bY S W n es l->hV S W n c l
inductive sJ(S:bf)(W:Wd)(n:Sf)(l:R5 AV):Prop
 |mk (vs:R5 Se) (k:Sf):W.ah (W.ρ n)=KX (.bx n)->W.h.get? (W.ρ n)=KX (aE vs k)->aA S W vs l->sJ S W n l
noncomputable def GJ(S:bf)(W:Wd)(n:Sf)(e:HE):Prop:=HE.casesOn e (λc l=>hV S W n c l) (λl=>sJ S W n l) Y2
noncomputable def aF.ofEntry(n:Sf):aF->Prop
 |.hd m=>m=n
 |.ha m _=>m=n
 |.hk m _ _=>m=n
 |.bx m=>m=n
 |_=>Ue
theorem GJ.kp{L:aF->Prop}{e:HE}(m:W.Kp L W')(hn:n<W.N)(h2:∀ℓ,ℓ.ofEntry n->L ℓ)(r:GJ S W n e):GJ S W' n e:=
 HE.casesOn e
  (λc l r=>hV.casesOn r λd sl es k a b c e f=>have q:=m.lk _ _ _ (h2 (.hd n) rfl) e c;⟨d,sl,es,k,m.dq n hn▸m.keep _ _ a b,m.dq n hn▸m.free _ _ a b,q.2,q.1,f.kp m (λu0=>h2 _ rfl) λu0 u1=>h2 _ rfl⟩)
  (λu0 r=>sJ.casesOn r λvs k a b c=>have q:=m.lk _ _ _ (h2 (.bx n) rfl) b a;⟨vs,k,m.dq n hn▸q.2,m.dq n hn▸q.1,c.bE m.toFe⟩) (λu0=>trivial) r
structure HR(S:bf)(W:Wd)(H:Hp):Prop where
 len:H.length=W.N
 at_:∀n e,H[n]? =KX e->GJ S W n e
theorem HR.kp{P:aF->Prop}(m:W.Kp P W')(N:W'.N=W.N)(h2:∀n ℓ,ℓ.ofEntry n->P ℓ)(r:HR S W H):HR S W' H:=
 ⟨r.len.trans N.symm,λn e he=>(r.at_ n e he).kp m (r.len▸(List.getElem?_eq_some_iff.mp he).1)<|h2 n⟩
theorem HR.mv{L:aF->Prop}(m:W.Mv L W')(h1:¬L .out)(h2:∀n ℓ,ℓ.ofEntry n->¬L ℓ)(r:HR S W H):HR S W' H:=r.kp (m.lA h1) m.N h2
structure dU(S:bf)(T:cU)(W:Wd):Prop where
 base:∀a o,T.base.get? a=KX o->a≠T.tp->W.h.get? a=KX o/\W.ah a=Sd
 tab:W.ah T.tp=KX .tab
 tB:∃more,W.h.TableAt T.tc T.tp more/\(more= #[]\/∃c':SJ,more= #[UN 83,UN 4,.ref c'])
 tc:T.tc≠T.tp/\∃o,T.base.get? T.tc=KX o
theorem dU.kp{P:aF->Prop}(m:W.Kp P W')(h2:P .tab)(ok:dU S T W):dU S T W' where
 base:=λa o e ne=>have q:=ok.base a o e ne;⟨m.keep _ _ q.1 q.2,m.free _ _ q.1 q.2⟩
 tab:=ok.tB.elim λu0 t=>(m.lk _ _ _ h2 t.1.2 ok.tab).2
 tB:=ok.tB.elim λmore t=>⟨more,⟨t.1.1.elim λo q=>q.elim λvs q=>⟨o,vs,ok.tc.2.elim λo' e'=>m.keep _ _ q.1 (ok.base _ _ e' ok.tc.1).2,q.2⟩,(m.lk _ _ _ h2 t.1.2 ok.tab).1⟩,t.2⟩
 tc:=ok.tc
theorem dU.mv{L:aF->Prop}(m:W.Mv L W')(h1:¬L .out)(h2:¬L .tab)(ok:dU S T W):dU S T W':=ok.kp (m.lA h1) h2
inductive iS(W:Wd)(d:SJ)(n:Sf)(es:R5 Sk):Prop
 |mk (more:R5 Sk) (k:Sf):W.h.get? d=KX (aI (es++more) k)->W.ah d=KX (.hd n)->iS W d n es
theorem iS.same(h:W.h.get? d=KX (aI es k))(l:W.ah d=KX (.hd n)):iS W d n es:=⟨[],k,(SP es).symm▸h,l⟩
structure Wd.Go(W W':Wd):Prop extends Wd.Le W W' where
 aL:∀d n es k,W.h.get? d=KX (aI es k)->W.ah d=KX (.hd n)->iS W' d n es
theorem Wd.Go.refl(W:Wd):W.Go W:=⟨.refl W,λu0 u1 u2 u3 e l=> .same e l⟩
theorem Wd.Go.trans(x:W.Go W')(y:W'.Go W''):W.Go W'':=
 ⟨x.toLe.trans y.toLe,λd n es k e l=>iS.casesOn (x.aL d n es k e l) λm1 k1 e1 l1=>iS.casesOn (y.aL d n _ k1 e1 l1) λm2 k2 e2 l2=>⟨m1++m2,k2,Tf es m1 m2▸e2,l2⟩⟩
theorem Wd.Mv.go{L:aF->Prop}(m:W.Mv L W')(h1:¬L .out)(h2:∀n,¬L (.hd n)):W.Go W':=
 ⟨m.le h1,λu0 n u1 u2 e l=> .same (m.mU e l<|h2 n)<|(m.ah _ _ e).trans l⟩
inductive VK where
 |l|c|r|g
 deriving Zf
inductive n7(S:bf)(W:Wd)(m:SS->Sh Se)(i:Sf)(x:SS)(sv:SV):Prop
 |un:sv=.un->n7 S W m i x sv
 |at(v:Se):m x=KX v->bV S W (.fs i) (λu0=> .fs i) v sv->n7 S W m i x sv
inductive n8(S:bf)(W:Wd)(env:Xz)(i:Sf)(x:SS)(sv:SV):Prop
 |un (c:SJ) (o:Xl) (v:Sh Se):env.cells.lookup x=KX c->W.ah c=KX (.fc i)->W.h.get? c=KX o->sv=.un->o.data=.cell v->n8 S W env i x sv
 |at(c:SJ) (o:Xl) (v:Se) (a:AV):env.cells.lookup x=KX c->W.ah c=KX (.fc i)->W.h.get? c=KX o->sv=.fr a->o.data=.cell (KX v)->RV S W v a->n8 S W env i x sv
inductive rQ(S:bf)(W:Wd)(env:Xz)(x:SS)(sv:SV):Prop
 |un:sv=.un->rQ S W env x sv
 |at(c:SJ) (o:Xl) (v:Se) (a:AV):env.cells.lookup x=KX c->W.ah c=KX .out->W.h.get? c=KX o->sv=.fr a->o.data=.cell (KX v)->RV S W v a->rQ S W env x sv
noncomputable def iB(S:bf)(W:Wd)(env:Xz)(m:SS->Sh Se)(i:Sf)(x:SS)(sv:SV)(k:VK):Prop:=VK.casesOn k (n7 S W m i x sv) (n8 S W env i x sv) (rQ S W env x sv) Y2
noncomputable def uc(sc:Xk)(x:SS):VK->Prop
 |.l=>sc.names.lookup x=KX .local
 |.c=>sc.names.lookup x=KX .cell
 |.r=>sc.names.lookup x=KX .cell\/sc.names.lookup x=KX .free
 |.g=>sc.names.lookup x=KX .globalImplicit
inductive rK(S:bf)(W:Wd)(env:Xz)(ks:R5 (SS×VK))(loc:Loc):Prop
 |mk (m:SS->Sh Se):W.h.Ns env.locals m->(∀(i:Sf) (x:SS) (k:VK) (sv:SV),ks[i]? =KX (x,k)->loc[i]? =KX sv->iB S W env m i x sv k)->rK S W env ks loc
structure FR(S:bf)(W:Wd)(env:Xz)(ks:R5 (SS×VK))(loc:Loc):Prop where
 kind:env.scope.kind=.function
 gl:env.globals=TA
 bl:env.builtins=Xw
 kn:∀(i:Sf) (x:SS) (k:VK),ks[i]? =KX (x,k)->uc env.scope x k
 nd:(ks.map (·.1)).Nodup
 len:loc.length=ks.length
 ah:W.ah env.locals=KX .fl
 cod:∀i:Sf,ks[i]? =KX (("put_in":SS),VK.c)->env.code=.ref S.tc
 sl:rK S W env ks loc
section
variable{m:SS->Sh Se}{i:Sf}{x:SS}{L:aF->Prop}(mm:W.Kp L W')
include mm
theorem iB.rJ{k:VK}(h1:L .out)(h2:L (.fs i))(h3:L (.fc i)):iB S W env m i x sv k->iB S W' env m i x sv k:=
 VK.casesOn k (λr=>n7.casesOn r .un λv a b=> .at v a (b.kp mm h2 λu0=>h2))
  (λr=>n8.casesOn r (λc o v a b e=>have q:=mm.lk _ _ _ h3 e b;.un c o v a q.2 q.1) λc o v y a b e p q t=>have z:=mm.lk _ _ _ h3 e b;.at c o v y a z.2 z.1 p q (t.bE mm.toFe))
  (λr=>rQ.casesOn r .un λc o v y a b e p q t=>have z:=mm.lk _ _ _ h1 e b;.at c o v y a z.2 z.1 p q (t.bE mm.toFe)) id
theorem Ns.kp{a:SJ}(hm:W.h.Ns a m)(l:W.ah a=KX ℓ)(h:L ℓ):W'.h.Ns a m/\W'.ah a=KX ℓ:=
 hm.elim λo q=>q.elim λes q=>q.elim λep q=>have z:=mm.lk _ _ _ h q.1 l;⟨⟨o,es,ep,z.1,q.2⟩,z.2⟩
theorem FR.rJ(h1:L .out)(h2:∀ℓ,ℓ.bC=R8->L ℓ)(r:FR S W env ks loc):FR S W' env ks loc:=
 rK.casesOn r.sl λm hm hs=>have q:=Ns.kp mm hm r.ah (h2 _ rfl);{r with ah:=q.2,sl:=⟨m,q.1,λi x k sv a b=>(hs i x k sv a b).rJ mm h1 (h2 _ rfl)<|h2 _ rfl⟩}
omit mm
theorem FR.mv(m:W.Mv L W')(h1:¬L .out)(h2:∀ℓ,ℓ.bC=R8->¬L ℓ)(r:FR S W env ks loc):FR S W' env ks loc:=r.rJ (m.lA h1) h1 h2
end
structure aN(A:Vj)(n:Sf):Prop where
 hd:A.handled=Sd
 dep:A.depth+2*n+4<recursionLimit
 un:A.units+16*n+300<WL
theorem aN.less{m:Sf}(r:aN A n)(h:m<=n):aN A m:=⟨r.hd,Sb (S6 (S2 (TH 2 h) _) 4) r.dep,Sb (S6 (S2 (TH 16 h) _) 300) r.un⟩
structure St(S:bf)(T:cU)(W:Wd)(env:Xz)(ks:R5 (SS×VK))(loc:Loc)(H:Hp):Prop where
 ok:dU S T W
 hr:HR S W H
 fr:FR S W env ks loc
theorem St.mv{L:aF->Prop}(mv:W.Mv L W')(h:∀ℓ,¬L ℓ)(r:St S T W env ks loc H):St S T W' env ks loc H:=
 ⟨r.ok.mv mv (h _)<|h _,r.hr.mv mv (h _) λu0 ℓ u1=>h ℓ,r.fr.mv mv (h _) λℓ O=>h ℓ⟩
noncomputable def Ends(s:Sn)(W:Wd)(Φ:Wd->Prop)(Q:Sn->Prop):Prop:=
 ∀s' W',s'.heap=W'.h->s'.gens=s.gens->s'.os=s.os->W.Go W'->Φ W'->Q s'
theorem Ends.after{Q:Sn->Prop}(h:Ends s W Φ Q)(g:ai.gens=s.gens)(o:ai.os=s.os)(go:W.Go aj):Ends ai aj Φ Q:=
 λs' W' a b c d e=>h s' W' a (b.trans g) (c.trans o) (go.trans d) e
noncomputable abbrev md(S:bf):Model:=Tj S.prog S.w
section
variable{c:Prop}[X7 c]{a b:Sem α}{Q:α->Sn->Prop}
theorem bM(h:¬c)(k:Sm M A b Q E s):Sm M A (if c then a else b) Q E s:=(SI h).symm▸k
theorem gc(h:c)(k:Sm M A a Q E s):Sm M A (if c then a else b) Q E s:=(Sv h).symm▸k
end
def Grows(s:Sn)(W:Wd)(Φ:Wd->Prop)(Q:Sn->Prop):Prop:=
 ∀s' W',s'.heap=W'.h->s'.gens=s.gens->s'.os=s.os->W.Mv iz W'->Φ W'->Q s'
theorem Grows.here{Q:Sn->Prop}(g:Grows s W Φ Q)(hs:s.heap=W.h)(h1:s'.heap=s.heap)(h2:s'.gens=s.gens)(h3:s'.os=s.os)(hΦ:Φ W):Q s':=
 g s' W (h1.trans hs) h2 h3 (.refl _ _) hΦ
theorem Grows.more{Q:Sn->Prop}(g:Grows s W Φ Q)(k:∀a o,W.h.get? a=KX o->s'.heap.get? a=KX o)(h2:s'.gens=s.gens)(h3:s'.os=s.os)(hΦ:Φ (W.grow s'.heap)):Q s':=
 g s' (W.grow s'.heap) rfl h2 h3 (Wd.gF k) hΦ
theorem bZ{h:Tu}{x:Xl}:∀a o,h.get? a=KX o->(h.push x).get? a=KX o:=λu0 u1 e=>Su x e
theorem pC{i:SK}(h:cO i=R8): -(2^62)<i/\i<2^62:=ae (λa b=>⟨Sa a,Sa b⟩) h
theorem cJ(h:aw n=R8):n<1000:=Sa h
theorem DU{m:Sf}{P:Prop}(k:n<1000->m<1000->P)(h:(aw n&&aw m)=R8):P:=ae (λa b=>k (cJ a)<|cJ b) h
section
noncomputable def wD(o:rT):Operator:=rT.casesOn o .Add .Sub .Mult .FloorDiv .Mod .Pow .BitOr
theorem r6{mk:R5 Se->Sf->Xl}{vs:R5 Se}{x:AV}(hf:(mk vs n).isFreed=Sj)(hs:s.heap=W.h)(h1:s'.heap=s.heap.push (mk vs n))(h2:s'.gens=s.gens)(h3:s'.os=s.os){Q:Sn->Prop}
  (r:∀W':Wd,W.Le W'->W'.h.get? s.heap.objs.size=KX (mk vs n)->W'.ah s.heap.objs.size=Sd->RV S W' (.ref s.heap.objs.size) x)
  (g:Grows s W (λW'=>RV S W' (.ref s.heap.objs.size) x) Q):Q s':=
 have k:=λa o e=>h1▸bZ a o (hs▸e)
 g.more k h2 h3 (r (W.grow s'.heap) ((Wd.gF k).le id) (Vm (R6 (λh:Tu=>h.get? s.heap.objs.size) h1)<|SD _ hf)<|Wd.d6<|hs▸bz (SN _))
theorem p9{vs:R5 Se}(hs:s.heap=W.h)(r:aA S W vs l)(h1:s'.heap=s.heap.push (aE vs n))(h2:s'.gens=s.gens)(h3:s'.os=s.os){Q:Sn->Prop}
  (g:Grows s W (λW'=>RV S W' (.ref s.heap.objs.size)<|.lst l) Q):Q s':=r6 rfl hs h1 h2 h3 (λu0 le e l=> .lst e l<|r.mono le) g
theorem xh{vs:R5 Se}(hs:s.heap=W.h)(r:aA S W vs l)(h1:s'.heap=s.heap.push (cE vs n))(h2:s'.gens=s.gens)(h3:s'.os=s.os){Q:Sn->Prop}
  (g:Grows s W (λW'=>RV S W' (.ref s.heap.objs.size)<|.tup l) Q):Q s':=r6 rfl hs h1 h2 h3 (λu0 le e l=> .tup e l<|r.mono le) g
theorem wF{y:SK}(h:cO y=R8):YV y<=64:=
 intBits_le_64 (aau (by decide) (pC h).1) (VF (pC h).2 (by decide))
theorem noPylong{x y:SK}(h:cO y=R8):Builtin.divisionGoesByPylong x y=false:=by
 obtain ⟨a,b⟩:=pC h;refine PyProof.noPylong_of_log2 ?_
 by_cases h0:y.natAbs=0
 ·rw[h0];decide+kernel
 ·have:y.natAbs.log2<62:=(Nat.log2_lt h0).mpr (by
   induction y using Int.casesOn with
   |ofNat n=>exact(Int.ofNat_lt (m:=2^62)).mp b
   |negSucc n=>exact(Int.ofNat_lt (m:=2^62)).mp<|Int.lt_of_neg_lt_neg a)
  exact Sw this (by decide)
theorem Gj{a b:SS}{t2:Tok}(l1:a.cps.toList.length<1000)(l2:b.cps.toList.length<1000)(g:∀q,Grows s W (λW'=>RV S W' q<|.str<|a.cps.toList++b.cps.toList)<|Q q)(hs:s.heap=W.h):
  Sm (md S) A (Vf .Add (.str a t)<|.str b t2) Q E s:=
 add_str (λt' tk=>(g _).here hs rfl rfl rfl ((R6 (λl=>RV S W (.str (a++b) t')<|.str l)<|Array.toList_append).mp .str))
  (Ss (SQ<|VS (TG▸l1)<|TG▸l2) (T6▸by decide))
theorem add_lists{x y:R5 AV}(l1:x.length<1000)(l2:y.length<1000)(hs:s.heap=W.h)(hx:RV S W u (.lst x))(hy:RV S W v (.lst y))(g:∀q,Grows s W (λW'=>RV S W' q<|.lst<|x++y)<|Q q):
  Sm (md S) A (Vf .Add u v) Q E s:=
 hx.kY λa va na a1 O c1=>hy.kY λb vb nb a2 O c2=>by
  rw[←hs] at a1 a2;refine concat_meets ⟨_,a1,rfl⟩ ⟨_,a2,rfl⟩ noFill_list_add seq_list_add PySem.F.slot_list_add PySem.F.entry_list_add (PySem.F.args_list_add_2 _ _) (AutoSeq1.list___add___list_list_0 _ _ _ _ _ _
   (?_)) ⟨a1,a2,?_⟩
  ·rw[Te,Te,c1.length,c2.length,T6]
   exact Ss (SQ<|VS l1 l2) (by decide)
  ·show Q _ _
   refine p9 hs (c2.append c1) (n:=0) ?_ (by rfl) (by rfl)<|g _;exact R6 (λa=>s.heap.push {cls:=.type "list",data:=.seq a})<|List.append_toArray ..
theorem mul_list{x:AV}{y:SK}(hy0:y=0/\l=[]\/y=1/\l=[x])(hs:s.heap=W.h)(hx:RV S W u (.lst [x]))(hy:RV S W v (.int y))(g:∀q,Grows s W (λW'=>RV S W' q<|.lst l)<|Q q):
  Sm (md S) A (Vf .Mult u v) Q E s:=by
 refine hx.kY λa vs na a1 O c1=>hy.eS λt=>
  c1.aU (λv us r b=>b.bN λa1=> ?_) a1;rw[←hs] at a1;refine WV (by decide) ⟨_,a1,rfl⟩ (λs'=>Xs s' _ _) Zg Y9 VH aaK F.slot_int_index.lookup
  (VP VH (Xs s _ _) YO (Yz _ _) (XG _ _ _ [v].toArray na)
  ⟨a1,rfl,⟨_,a1,rfl⟩,VP Y7 ⟨_,a1,rfl⟩ YN (Yy _ _)
  (Vv _ [v].toArray na _ _ ?_ ?_ ?_) ⟨a1,?_⟩⟩)
 iterate 3 (rcases hy0 with q|q<;>rw[q.1]<;>first|decide|(simp[Vd,UZ];done))
 refine p9 hs (vs:=if y=0 then [] else [v]) ?_ (n:=0) ?_ (by rfl) (by rfl)<|g _
 ·rcases hy0 with q|q<;>rw[q.1,q.2]
  ·exact .nil
  ·exact .cons r .nil
 ·rcases hy0 with q|q<;>rw[q.1]<;>rfl
theorem MC{o:rT}{x y z:AV}(hs:s.heap=W.h)(h:fV o x y=KX z)(hx:RV S W u x)(hy:RV S W v y)(ks:∀l m,RV S W u (.aQ l)->RV S W v (.aQ m)->(if fh l.length&&fh m.length then KX (AV.aQ<|l.filter λk=> !m.contains k) else Sd)=KX z->Sm (md S) A (Vf .Sub u v) Q E s)
  (ko:∀l m,RV S W u (.aQ l)->RV S W v (.aQ m)->(if fh l.length&&fh m.length then KX (AV.aQ<|l++m) else Sd)=KX z->Sm (md S) A (Vf .BitOr u v) Q E s)
  (g:∀q,Grows s W (λW'=>RV S W' q z)<|Q q):Sm (md S) A (Vf (wD o) u v) Q E s:=by
 have gi:∀{i t s'},KX (.int i)=KX z->s'.heap=s.heap->s'.gens=s.gens->s'.os=s.os->Q (.int i t) s':=λh a b c=>(g _).here hs a b c<|RV.int.to h;have gg:∀{z'},KX z'=KX z->∀q,Grows s W (λW'=>RV S W' q z') (Q q):=λh q s' W' a b c d e=>g q s' W' a b c d<|RV.to e h;have i2:∀{f:SK->SK->Sh AV} {op},pA x y f=KX z->(∀i j t t2,f i j=KX z->Sm (md S) A (Vf op (.int i t)<|.int j t2) Q E s)->Sm (md S) A (Vf op u v) Q E s:=
  fun{f op} h k=>hx.bt (λi h t=>hy.bt (λj h t2=>k i j t t2 h) h au) h au
 induction o using rT.casesOn
 ·exact hx.bt (λi h t=>hy.bt (λj h t2=>add_int<|gi h rfl rfl rfl) h au) h
   λh=>hx.onStr (λl h a t e=>hy.onStr (λm h b t2 e2=>aR (λc h=>DU (λl1 l2=>Gj (e.symm▸l1) (e2.symm▸l2) (e.symm▸e2.symm▸gg h) hs) c) h) h au) h
   λh=>AV.dH (λl h hx=>AV.dH (λm h hy=>aR (λc h=>DU (λl1 l2=>add_lists l1 l2 hs hx hy<|gg h) c) h) h au hy) h au hx
 ·exact hx.bt (λi h t=>hy.bt (λj h t2=>sub_int<|gi h rfl rfl rfl) h au) h
   λh=>AV.jk (λl h hx=>AV.jk (λm h hy=>ks l m hx hy h) h au hy) h au hx
 ·exact hx.bt (λi h t=>hy.bt (λj h t2=>aR (λc h=>mul_int (gi h rfl rfl rfl)<|.of_right<|wF c) h) h au) h
   λh=>AV.dH (λl h hx=>by
    induction l using Sp with
    |nil=>exact au h
    |cons x r=>induction r using Sp with
     |cons _ _=>exact au h
     |nil=>exact AV.dw (λi h hy=>by
       by_cases h0:i=0
       ·exact mul_list (.inl ⟨h0,rfl⟩) hs hx hy<|gg<|(Sv h0).symm.trans h
       ·exact aR (λh1 h=>mul_list (.inr ⟨h1,rfl⟩) hs hx hy<|gg h)<|(SI h0).symm.trans h) h au hy) h au hx
 ·exact i2 h λi j t t2 h=>aR (λc h=>floordiv_int c.1 (gi h rfl rfl rfl)<|.inl<|noPylong c.2) h
 ·exact i2 h λi j t t2 h=>by
   by_cases h0:j=0
   ·exact au<|(Sv h0).symm.trans h
   ·exact mod_int' h0<|gi ((SI h0).symm.trans h) rfl rfl rfl
 ·exact i2 h λi j t t2 h=>aR (λc h=>by refine pow_int c.1 ?_<|gi h rfl rfl rfl;have:=wF c.2.2;have:((YV i))*j<=64*64:=Int.mul_le_mul (Int.ofNat_le.mpr ‹_›) (Wr c.2.1) c.1 (by decide);exact Yb this (by decide)) h
 ·exact AV.jk (λl h hx=>AV.jk (λm h hy=>ko l m hx hy h) h au hy) h au hx
end
noncomputable def AV.py(x:AV):PyData:=AV.rec (motive_1:=λu0=>aao) (motive_2:=λu0=>R5 aao) (motive_3:=λu0=>TZ) (motive_4:=λu0=>TZ) (motive_5:=λu0=>TZ) (motive_6:=λu0=>TZ) (motive_7:=λu0=>TZ) (motive_8:=λu0=>TZ) (motive_9:=λu0=>TZ) (motive_10:=λu0=>TZ) .none (λu0=> .none) .int (λl=> .str ⟨l.toArray⟩) (λu0 r=> .tuple r) (λu0 r=> .list r) (λu0 u1=> .none) (λu0 u1=> .none) (λu0 u1=> .none) (λu0=> .none) (λu0 u1 u2=> .none) (λu0=> .none) (λu0=> .none) (λu0=> .none) (λu0 u1=> .none) (λu0=> .none) .none [] (λu0 u1 a r=>a::r) () (λu0 u1 u2 u3=>()) () (λu0 u1 u2 u3=>()) () (λu0 u1 u2 u3=>()) () (λu0 u1 u2 u3=>()) (λu0 u1 u2 u3=>()) (λu0 u1 u2=>()) (λu0 u1 u2=>()) (λu0 u1 u2=>()) x
noncomputable def rN(l:R5 AV):R5 PyData:=AV.rec_1 (motive_1:=λu0=>aao) (motive_2:=λu0=>R5 aao) (motive_3:=λu0=>TZ) (motive_4:=λu0=>TZ) (motive_5:=λu0=>TZ) (motive_6:=λu0=>TZ) (motive_7:=λu0=>TZ) (motive_8:=λu0=>TZ) (motive_9:=λu0=>TZ) (motive_10:=λu0=>TZ) .none (λu0=> .none) .int (λl=> .str ⟨l.toArray⟩) (λu0 r=> .tuple r) (λu0 r=> .list r) (λu0 u1=> .none) (λu0 u1=> .none) (λu0 u1=> .none) (λu0=> .none) (λu0 u1 u2=> .none) (λu0=> .none) (λu0=> .none) (λu0=> .none) (λu0 u1=> .none) (λu0=> .none) .none [] (λu0 u1 a r=>a::r) () (λu0 u1 u2 u3=>()) () (λu0 u1 u2 u3=>()) () (λu0 u1 u2 u3=>()) () (λu0 u1 u2 u3=>()) (λu0 u1 u2 u3=>()) (λu0 u1 u2=>()) (λu0 u1 u2=>()) (λu0 u1 u2=>()) l
theorem EZ{l:R5 Sf}(h:qT l=R8):abb ⟨l.toArray⟩=true:=by unfold abb;rw[List.all_toArray];exact List.all_eq_true.mpr λc hc=>Sz<|Sw (Nat.le_of_ble_eq_true<|List.all_eq_true.mp h c hc) (by decide)
theorem AV.gj{P:Sf->AV->Prop}(p0:∀n,P n .none)(pi:∀n i,P n<|.int i)(ps:∀n l,qT l=R8->P n (.str l))(pt:∀n l,(∀x∈l,P n x)->P (n+1) (.tup l))(pl:∀n l,(∀x∈l,P n x)->P (n+1) (.lst l)):∀{x:AV},x.plain n=R8->P n x:=by
 induction n with
 |zero=>intro x;induction x using AV.casesOn<;>first|exact λu0=>p0 _|exact λu0=>pi _ _|exact ps _ _|exact bc
 |succ n ih=>intro x;induction x using AV.casesOn<;>first|exact λu0=>p0 _|exact λu0=>pi _ _|exact ps _ _|exact λh=>pt _ _ λx hx=>ih (List.all_eq_true.mp h x hx)|exact λh=>pl _ _ λx hx=>ih (List.all_eq_true.mp h x hx)|exact bc
theorem uX(h:∀x∈l,x.py.canLay0=R8/\x.py.depth<=n):ZU (rN l)=R8/\Yf (rN l)<=n:=by
 induction l with
 |nil=>exact ⟨rfl,Ui _⟩
 |cons x l ih=>
  have a:=h x<|.head _;have b:=ih λy hy=>h y<|.tail _ hy;exact ⟨Bool.and_eq_true_iff.mpr ⟨a.1,b.1⟩,Nat.max_le.mpr ⟨a.2,b.2⟩⟩
theorem kK{x:AV}:x.plain n=R8->x.py.canLay0=R8/\x.py.depth<=n:=
 AV.gj (P:=λn x=>x.py.canLay0=R8/\x.py.depth<=n) (λu0=>⟨rfl,Ui _⟩) (λu0 u1=>⟨rfl,Ui _⟩) (λu0 u1 h=>⟨EZ h,Ui _⟩)
  (λu0 u1 h=>have q:=uX h;⟨q.1,WW q.2⟩) (λu0 u1 h=>have q:=uX h;⟨q.1,WW q.2⟩)
theorem AJ(h:l.all (AV.plain n)=R8):ZU (rN l)=R8/\Yf (rN l)<=n:=uX λx hx=>kK<|List.all_eq_true.mp h x hx
theorem str_beq(a b:R5 Sf):(((⟨a.toArray⟩:SS)==⟨b.toArray⟩))=decide (a=b):=
 Bool.eq_iff_iff.mpr ⟨λh=>Sz<|R6 (λs:SS=>s.cps.toList)<|eq_of_beq h,λh=>Sa h▸U1 _⟩
theorem JR(a b:SK):(a==b)=decide (a=b):=Bool.eq_iff_iff.mpr ⟨λh=>Sz<|eq_of_beq h,λh=>Sa h▸U1 _⟩
theorem zE{f:AV->AV->Sq}(h:∀x∈l,∀y k,y.plain k=R8->VY x.py y.py=f x y):∀(m:R5 AV) (k:Sf),m.all (AV.plain k)=R8->PyData.eqvAll (rN l) (rN m)=yB f l m:=by
 induction l with
 |nil=>intro m _ _;induction m using Sp<;>rfl
 |cons x l ih=>
  intro m k
  induction m using Sp with
  |nil=>exact λu0=>rfl
  |cons y m=>exact ae λa b=>congr (R6 and<|h x (.head _) y k a) (ih (λy hy=>h y<|.tail _ hy) m k b)
theorem sU{x y:AV}(hx:x.plain n=R8)(hy:y.plain k=R8):VY x.py y.py=AV.beq n x y:=by
 refine AV.gj (P:=λn x=>∀y k,y.plain k=R8->VY x.py y.py=AV.beq n x y) ?_ ?_ ?_ ?_ ?_ hx y k hy
 ·intro n y k hy
  induction n using SW<;>exact AV.gj (P:=λu0 y=>VY AV.none.py y.py=AV.beq _ .none y) (λu0=>rfl) (λu0 u1=>rfl) (λu0 u1 u2=>rfl) (λu0 u1 u2=>rfl) (λu0 u1 u2=>rfl) hy
 ·intro n i y k hy
  induction n using SW<;>exact AV.gj (P:=λu0 y=>VY (AV.int i).py y.py=AV.beq _ (.int i) y) (λu0=>rfl) (λu0 u1=>JR _ _) (λu0 u1 u2=>rfl) (λu0 u1 u2=>rfl) (λu0 u1 u2=>rfl) hy
 ·intro n l _ y k hy
  induction n using SW with
  |zero=>exact AV.gj (P:=λu0 y=>VY (AV.str l).py y.py=AV.beq 0 (.str l) y) (λu0=>rfl) (λu0 u1=>rfl) (λu0 u1 u2=>str_beq _ _) (λu0 u1 u2=>rfl) (λu0 u1 u2=>rfl) hy
  |succ n=>exact AV.gj (P:=λu0 y=>VY (AV.str l).py y.py=AV.beq (n+1) (.str l) y) (λu0=>rfl) (λu0 u1=>rfl) (λu0 u1 u2=>str_beq _ _) (λu0 u1 u2=>rfl) (λu0 u1 u2=>rfl) hy
 ·intro n l ih y k hy
  have q:=zE ih
  induction k using SW<;>induction y using AV.casesOn<;>first|exact bc hy|exact q _ _ hy|rfl
 ·intro n l ih y k hy
  have q:=zE ih
  induction k using SW<;>induction y using AV.casesOn<;>first|exact bc hy|exact q _ _ hy|rfl
theorem vd(h:∀x∈l,∀v,RV S W v x->∃as,aaP W.h v x.py as):∀{vs:R5 Se},aA S W vs l->∃as,ReadsAll W.h vs (rN l) as:=by
 induction l with
 |nil=>exact λr=>r.bN ⟨_,aax⟩
 |cons x l ih=>exact λr=>r.aU λv us a b=>(h x (.head _) v a).elim λu0 q=>(ih (λy hy=>h y<|.tail _ hy) b).elim λu0 p=>⟨_,aan q p⟩
theorem RV.reads{x:AV}(r:RV S W v x)(h:x.plain n=R8):∃as,aaP W.h v x.py as:=
 AV.gj (P:=λu0 x=>∀v,RV S W v x->∃as,aaP W.h v x.py as) (λu0 v r=>r.Bu ⟨_,Reads.none⟩) (λu0 i v r=>r.eS λt=>⟨_,Reads.int i t⟩)
  (λu0 l u1 v r=>r.nK λx t e=>⟨[],e▸Reads.str x t⟩)
  (λu0 l h v r=>r.gy λu0 u1 u2 a u3 c=>(vd h c).elim λas q=>⟨as,reads_tuple_at a rfl rfl q⟩)
  (λu0 l h v r=>r.kY λu0 u1 u2 a u3 c=>(vd h c).elim λas q=>⟨_,reads_list_at a rfl rfl q⟩) h v r
noncomputable def wy(o:pW):CmpOp:=pW.casesOn o .Lt .Gt .GtE .LtE .Eq .NotEq .In .NotIn .Is .IsNot
theorem Ls{a:AV}(ha:a.plain k=R8):l.all (AV.plain n)=R8->(rN l).any (λy=>VY y a.py)=l.any λy=>AV.beq n y a:=by
 induction l with
 |nil=>exact λu0=>rfl
 |cons x l ih=>exact ae λh1 h2=>congr (R6 or<|sU h1 ha) (ih h2)
section
variable{x y:AV}
theorem mH{x:AV}(h:x.plain n=R8)(hn:n<=8):SeqAt.shaped x.py=true:=
 have q:=kK h;Bool.and_eq_true_iff.mpr ⟨q.1,Sz<|Ss q.2<|Ss hn (by decide)⟩
theorem Ob(hs:s.heap=W.h)(h:tw x y=KX b)(hx:RV S W u x)(hy:RV S W v y)(hu:A.units+64<WL)(g:Q (.bool b) s):Sm (md S) A (Ux .Eq u v) Q E s:=
 aR (λc h=>ae (λp1 p2=>(hx.reads p1).elim λas ra=>(hy.reads p2).elim λbs rb=>eq_dataH (hs▸ra) (hs▸rb) (mH p1 (by decide)) (mH p2 (by decide)) hu<|(sU p1 p2).symm▸R9 h▸g) c) h
theorem Nr(hs:s.heap=W.h)(h:(tw x y).map (!·)=KX b)(hx:RV S W u x)(hy:RV S W v y)(hu:A.units+64<WL)(g:Q (.bool b) s):Sm (md S) A (Ux .NotEq u v) Q E s:=
 bI (λz h e=>aR (λc h=>ae (λp1 p2=>(hx.reads p1).elim λas ra=>(hy.reads p2).elim λbs rb=>ne_dataH (hs▸ra) (hs▸rb) (mH p1 (by decide)) (mH p2 (by decide)) hu<|(sU p1 p2).symm▸R9 h▸e▸g) c) h) h
theorem CK(hs:s.heap=W.h)(h:yA x l=KX b)(hx:RV S W u x)(hy:RV S W v (.tup l)\/RV S W v (.lst l))(hu:A.units+64<WL)(g:Q (.bool<|b !=neg) s):
  Sm (md S) A (Ux (if neg then .NotIn else .In) u v) Q E s:=by
 refine aR (λc h=>ae (λp1 p2=> ?_) c) h;obtain ⟨as,ra⟩:=hx.reads p1;have la:=kK p1;have ll:=AJ p2;have hu':A.units+1+min (Yf<|rN l) x.py.depth<cLine:=
  Sb (S2 (Ss (Yu _ _) la.2) _) (Sb (S2 (by decide:8<=64) A.units) hu);have ra:=(R6 (λh=>aaP h u x.py as) hs).mpr ra;have g':=(Ls p1 p2).symm▸R9 h▸g;have pl:∀{z:AV},RV S W v z->z.plain 8=R8->∃bs,aaP s.heap v z.py bs:=λr h=>hs▸r.reads h
 induction neg using Tb
 ·have g':=(R6 (λb=>Q (.bool b) s)<|Ws _).mp g'
  exact hy.elim (λhy=>(pl hy p2).elim λbs rb=>SeqAt.in_tuple_reads rb ra ll.1 la.1 hu' g') λhy=>(pl hy p2).elim λbs rb=>SeqAt.in_list_reads rb ra ll.1 la.1 hu' g'
 ·have g':=(R6 (λb=>Q (.bool b) s)<|XM _).mp g'
  exact hy.elim (λhy=>(pl hy p2).elim λbs rb=>SeqAt.notIn_tuple_reads rb ra ll.1 la.1 hu' g') λhy=>(pl hy p2).elim λbs rb=>SeqAt.notIn_list_reads rb ra ll.1 la.1 hu' g'
end
theorem AV.j5{P:Sf->AV->Prop}(pi:∀n i,P n<|.int i)(ps:∀n l,qT l=R8->P n (.str l))(pt:∀n l,l.all (AV.key n)=R8->(∀x∈l,P n x)->P (n+1) (.tup l)):∀{x:AV},x.key n=R8->P n x:=by
 induction n with
 |zero=>intro x;induction x using AV.casesOn<;>first|exact λu0=>pi _ _|exact ps _ _|exact bc
 |succ n ih=>intro x;induction x using AV.casesOn<;>first|exact λu0=>pi _ _|exact ps _ _|exact λh=>pt _ _ h λx hx=>ih (List.all_eq_true.mp h x hx)|exact bc
inductive pV(h:Tu)(R:R5 Se->Prop):Se->Prop
 |mk {a:SJ} {vs:R5 Se} {n:Sf}:h.get? a=KX (cE vs n)->R vs->pV h R (.ref a)
noncomputable def KV(h:Tu)(u:Se)(x:AV):Prop:=AV.rec (motive_1:=λu0=>Se->Prop) (motive_2:=λu0=>R5 Se->Prop) (motive_3:=λu0=>TZ) (motive_4:=λu0=>TZ) (motive_5:=λu0=>TZ) (motive_6:=λu0=>TZ) (motive_7:=λu0=>TZ) (motive_8:=λu0=>TZ) (motive_9:=λu0=>TZ) (motive_10:=λu0=>TZ) (λu0=>Ue) (λu0 u1=>Ue) i7 iW (λu0 R=>pV h R) (λu0 u1 u2=>Ue) (λu0 u1 u2=>Ue) (λu0 u1 u2=>Ue) (λu0 u1 u2=>Ue) (λu0 u1=>Ue) (λu0 u1 u2 u3=>Ue) (λu0 u1=>Ue) (λu0 u1=>Ue) (λu0 u1=>Ue) (λu0 u1 u2=>Ue) (λu0 u1=>Ue) (λu0=>Ue) (λvs=>vs=[]) (λu0 u1=>aG) () (λu0 u1 u2 u3=>()) () (λu0 u1 u2 u3=>()) () (λu0 u1 u2 u3=>()) () (λu0 u1 u2 u3=>()) (λu0 u1 u2 u3=>()) (λu0 u1 u2=>()) (λu0 u1 u2=>()) (λu0 u1 u2=>()) x u
noncomputable def fT(h:Tu)(us:R5 Se)(l:R5 AV):Prop:=AV.rec_1 (motive_1:=λu0=>Se->Prop) (motive_2:=λu0=>R5 Se->Prop) (motive_3:=λu0=>TZ) (motive_4:=λu0=>TZ) (motive_5:=λu0=>TZ) (motive_6:=λu0=>TZ) (motive_7:=λu0=>TZ) (motive_8:=λu0=>TZ) (motive_9:=λu0=>TZ) (motive_10:=λu0=>TZ) (λu0=>Ue) (λu0 u1=>Ue) i7 iW (λu0 R=>pV h R) (λu0 u1 u2=>Ue) (λu0 u1 u2=>Ue) (λu0 u1 u2=>Ue) (λu0 u1 u2=>Ue) (λu0 u1=>Ue) (λu0 u1 u2 u3=>Ue) (λu0 u1=>Ue) (λu0 u1=>Ue) (λu0 u1=>Ue) (λu0 u1 u2=>Ue) (λu0 u1=>Ue) (λu0=>Ue) (λvs=>vs=[]) (λu0 u1=>aG) () (λu0 u1 u2 u3=>()) () (λu0 u1 u2 u3=>()) () (λu0 u1 u2 u3=>()) () (λu0 u1 u2 u3=>()) (λu0 u1 u2 u3=>()) (λu0 u1 u2=>()) (λu0 u1 u2=>()) (λu0 u1 u2=>()) l us
section
variable{h:Tu}
theorem KV.tup{vs:R5 Se}(e:h.get? a=KX (cE vs n))(r:fT h vs l):KV h (.ref a) (.tup l):=pV.mk e r
theorem fT.nil:fT h [] []:=rfl
theorem fT.cons{x:AV}{vs:R5 Se}(a:KV h v x)(b:fT h vs l):fT h (v::vs) (x::l):=aG.mk a b
@[elab_as_elim] theorem fT.bN {P:R5 Se->Prop} {vs:R5 Se} (h:fT h vs []) (k:P []):P vs:= @V0 _ _ (λv O=>P v) k _<|Wf h
@[elab_as_elim] theorem fT.aU {P:R5 Se->Prop} {vs:R5 Se} {x:AV} (r:fT h vs (x::l)) (k:∀v us,KV h v x->fT h us l->P (v::us)):P vs:=aG.casesOn r<|k _ _
variable{P:Se->Prop}
@[elab_as_elim] theorem KV.eS {i:SK} (r:KV h u (.int i)) (k:∀t,P<|.int i t):P u:=i7.casesOn r<|k _
@[elab_as_elim] theorem KV.nK {l:R5 Sf} (r:KV h u (.str l)) (k:∀x t,x.cps.toList=l->P (.str x t)):P u:=iW.casesOn r<|k _ _
@[elab_as_elim] theorem KV.gy (r:KV h u (.tup l)) (k:∀a vs n,h.get? a=KX (cE vs n)->fT h vs l->P (.ref a)):P u:=pV.casesOn r<|k _ _ _
theorem fT.of{R:Se->AV->Prop}{Rs:R5 Se->R5 AV->Prop}(z:Rs [] [])(c:∀v x vs l,R v x->Rs vs l->Rs (v::vs) (x::l))(k:∀x∈l,∀v,KV h v x->R v x):∀{vs:R5 Se},fT h vs l->Rs vs l:=by
 induction l with
 |nil=>exact λr=>r.bN z
 |cons x l ih=>exact λr=>r.aU λv us a b=>c v x us l (k x (.head _) v a)<|ih (λy hy=>k y<|.tail _ hy) b
theorem aA.of{R:Se->AV->Prop}{Rs:R5 Se->R5 AV->Prop}(z:Rs [] [])(c:∀v x vs l,R v x->Rs vs l->Rs (v::vs) (x::l))(k:∀x∈l,∀v,RV S W v x->R v x):∀{vs:R5 Se},aA S W vs l->Rs vs l:=by
 induction l with
 |nil=>exact λr=>r.bN z
 |cons x l ih=>exact λr=>r.aU λv us a b=>c v x us l (k x (.head _) v a)<|ih (λy hy=>k y<|.tail _ hy) b
end
theorem RV.kv{x:AV}(r:RV S W v x)(h:x.key n=R8):KV W.h v x:=
 AV.j5 (P:=λu0 x=>∀v,RV S W v x->KV W.h v x) (λu0 u1 u2 r=>r) (λu0 u1 u2 u3 r=>r) (λu0 l u1 ih v r=>r.gy λu0 u1 u2 a u3 c=> .tup a<|c.of fT.nil (λu0 u1 u2 u3=> .cons) ih) h v r
theorem KV.keeps{h:Tu}(k:∀a vs n,h.get? a=KX (cE vs n)->h'.get? a=KX (cE vs n)){x:AV}(r:KV h v x)(hx:x.key n=R8):KV h' v x:=
 AV.j5 (P:=λu0 x=>∀v,KV h v x->KV h' v x) (λu0 u1 u2 r=>r) (λu0 u1 u2 u3 r=>r) (λu0 l u1 ih v r=>r.gy λu0 u1 u2 a c=> .tup (k _ _ _ a)<|c.of fT.nil (λu0 u1 u2 u3=> .cons) ih) hx v r
theorem aG.both{R:α->Prop}{Rs:R5 α->Prop}{v:α}{vs:R5 α}:aG R Rs (v::vs)->R v/\Rs vs
 |.mk a b=>⟨a,b⟩
theorem i7.inj{i j:SK}:i7 j (.int i t)->i=j
 |.mk=>rfl
theorem iW.inj{l:R5 Sf}{x:SS}:iW l (.str x t)->x.cps.toList=l
 |.mk h=>h
theorem pV.at{h:Tu}{R:R5 Se->Prop}{vs:R5 Se}(e:h.get? a=KX (cE vs n)):pV h R (.ref a)->R vs
 |.mk (vs:=ws) e' r=>(R6 R<|R6 Zm (Data.seq.inj<|R6 X9<|R9<|e.symm.trans e').1).mpr r
theorem fT.inj{h:Tu}(k:∀x∈l,∀v,KV h v x->∀y,KV h v y->x=y){vs:R5 Se}(r:fT h vs l):∀m,fT h vs m->l=m:=
 r.of (Rs:=λvs l=>∀m,fT h vs m->l=m)
  (λm=>by induction m using Sp with
   |nil=>exact λu0=>rfl
   |cons y m=>exact λr=>nomatch r)
  (λv x vs l a b m=>by induction m using Sp with
   |nil=>exact λr=>nomatch r
   |cons y m=>exact λr=>congr (R6 _<|a y (aG.both r).1) (b m (aG.both r).2)) k
theorem KV.inj{h:Tu}{x y:AV}(r:KV h v x)(hx:x.key n=R8)(r':KV h v y):x=y:=by
 refine AV.j5 (P:=λu0 x=>∀v,KV h v x->∀y,KV h v y->x=y) ?_ ?_ ?_ hx v r y r'
 ·refine λn i v r=>r.eS λt y=> ?_
  induction y using AV.casesOn<;>first|exact YM|exact λr=>R6 _ (i7.inj r)|exact λr=>nomatch r
 ·refine λn l O v r=>r.nK λx t e y=> ?_
  induction y using AV.casesOn<;>first|exact YM|exact λr=>R6 _ (e.symm.trans (iW.inj r))|exact λr=>nomatch r
 ·refine λn l O ih v r=>r.gy λa vs n e c y=> ?_
  induction y using AV.casesOn<;>first|exact YM|exact λr=>R6 _ (c.inj ih _<|pV.at e r)|exact λr=>nomatch r
theorem KV.reads{h:Tu}{x:AV}(r:KV h v x)(hx:x.key n=R8):∃as,aaP h v x.py as:=
 AV.j5 (P:=λu0 x=>∀v,KV h v x->∃as,aaP h v x.py as) (λu0 i v r=>r.eS λt=>⟨_,Reads.int i t⟩)
  (λu0 l u1 v r=>r.nK λx t e=>⟨[],e▸Reads.str x t⟩)
  (λu0 l u1 ih v r=>r.gy λu0 u1 u2 a c=>(c.of (Rs:=λvs l=>∃as,ReadsAll h vs (rN l) as) ⟨_,aax⟩ (λu0 u1 u2 u3 a b=>a.elim λu0 q=>b.elim λu0 p=>⟨_,aan q p⟩) ih).elim λas q=>⟨as,reads_tuple_at a rfl rfl q⟩) hx v r
theorem mR{x:AV}(h:x.key n=R8):x.plain n=true:=
 AV.j5 (λu0 u1=>rfl) (λu0 u1 h=>h) (λu0 u1 u2 ih=>List.all_eq_true.mpr ih) h
theorem F4{x:AV}(h:x.plain n=R8):x.plain (n+1)=true:=
 AV.gj (P:=λn x=>x.plain (n+1)=R8) (λu0=>rfl) (λu0 u1=>rfl) (λu0 u1 h=>h) (λu0 u1 ih=>List.all_eq_true.mpr ih) (λu0 u1 ih=>List.all_eq_true.mpr ih) h
def w5(a:AV)(t:R5 AV->Sf):Nat:=a.cQ 1 t
def NZ(d:Sf):R5 AV->Nat:=VA (λu0=>1) (λu0 ih l=>(l.map λa=>w5 a ih).sum+1) d
def AV.draws(d:Sf)(a:AV):Nat:=w5 a<|NZ d
theorem pD{f:AV->AV->Sq}(h:∀x∈l,∀y,f x y=R8↔x=y):∀m:R5 AV,yB f l m=R8↔l=m:=by
 induction l with
 |nil=>intro m;induction m using Sp with
  |nil=>exact ⟨λu0=>rfl,λu0=>rfl⟩
  |cons=>exact ⟨bc,λe=>nomatch e⟩
 |cons x l ih=>intro m;induction m using Sp with
  |nil=>exact ⟨bc,λe=>nomatch e⟩
  |cons y m=>exact ⟨ae λa b=>congr (R6 _<|(h x (.head _) y).mp a) ((ih (λz hz=>h z<|.tail _ hz) m).mp b),λe=>Bool.and_eq_true_iff.mpr ⟨(h x (.head _) y).mpr<|List.head_eq_of_cons_eq e,(ih (λz hz=>h z<|.tail _ hz) m).mpr<|List.tail_eq_of_cons_eq e⟩⟩
theorem beq_iff{x y:AV}(h:x.plain n=R8):AV.beq n x y=R8↔x=y:=by
 refine AV.gj (P:=λn x=>∀y,AV.beq n x y=R8↔x=y) ?_ ?_ ?_ ?_ ?_ h y
 ·intro n y;induction y using AV.casesOn<;>first|exact ⟨λu0=>rfl,λu0=>rfl⟩|exact ⟨bc,λe=>nomatch e⟩
 ·intro n i y;induction y using AV.casesOn<;>first|exact ⟨bc,λe=>nomatch e⟩|exact ⟨λe=>R6 _<|Sa e,λe=>Sz<|AV.Kg e⟩
 ·intro n l _ y;induction y using AV.casesOn<;>first|exact ⟨bc,λe=>nomatch e⟩|exact ⟨λe=>R6 _<|Sa e,λe=>Sz<|AV.Kj e⟩
 ·intro n l ih y;induction y using AV.casesOn<;>first|exact ⟨bc,λe=>nomatch e⟩|exact ⟨λe=>R6 _<|(pD ih _).mp e,λe=>(pD ih _).mpr<|AV.ou e⟩
 ·intro n l ih y;induction y using AV.casesOn<;>first|exact ⟨bc,λe=>nomatch e⟩|exact ⟨λe=>R6 _<|(pD ih _).mp e,λe=>(pD ih _).mpr<|AV.D6 e⟩
theorem vV{a b:R5 AV}(h:AV.key 4 (.tup a)=R8):kF a b=R8↔a=b:=
 (beq_iff<|F4<|mR h).trans ⟨λe=>AV.ou e,R6 _⟩
@[elab_as_elim] theorem fT.HJ {h:Tu} {vs:R5 Se} {P:R5 AV->Prop} (k:∀x m,KV h v x->fT h vs m->P (x::m)):fT h (v::vs) l->P l:=by
 induction l using Sp with
 |nil=>exact λr=>nomatch r
 |cons x m=>exact λr=>k x m (aG.both r).1 (aG.both r).2
@[elab_as_elim] theorem fT.QA {h:Tu} {P:R5 AV->Prop} (k:P []):fT h [] l->P l:=by
 induction l using Sp with
 |nil=>exact λu0=>k
 |cons x m=>exact λr=>nomatch r
section
theorem D4{d:Sf}{k:AV}{Q:SK->Sn->Prop}(hk:KV s.heap v k)(hd:k.key d=R8)(hu:A.units+d+1<WL)
  (hQ:Q (AV.hash S d k) {s with toks:=s.toks+AV.draws d k}):Sm (md S) A (pyHash v) Q E s:=by
 refine AV.j5 (P:=λd k=>∀(s:Sn) (A:Vj) (E:Se->Sn->Prop) (v:Se) Q,KV s.heap v k->A.units+d+1<WL->Q (AV.hash S d k) {s with toks:=s.toks+AV.draws d k}->Sm (md S) A (pyHash v) Q E s) ?_ ?_ ?_ hd s A E v Q hk hu hQ
 ·exact λn i s A E v Q hk O hQ=>hk.eS λt=>(TX S.prog S.w).pyHash (Va _ _ _ _) hQ
 ·exact λn l O s A E v Q hk u1 hQ=>hk.nK λx t e=>(strKind S.prog S.w).pyHash (Zx _ _ _ _)<|(R6 (λl:R5 Sf=>Q ((strKind S.prog S.w).hash ⟨l.toArray⟩) _) e).mpr hQ
 ·refine λd l hl ih s A E v Q hk hu hQ=>hk.gy λa vs n ho hi=> ?_
  have hT:s.TypeIs (.ref a) "tuple":=⟨_,ho,rfl⟩;have hu1:=(TP A.units 1 d▸hu)
  first|unfold pyHashByItsType|skip
  first|refine R7 (wpAny_cRoomFor_or (.inr<|Sb (S2 (Ub 1<|d+1) A.units) hu) ?_)|refine R7 (wpAny_cRoomFor_or (.inr<|Sb (Ss (S0 _<|d+1)<|Tn _) hu) ?_)|skip
  refine R7<|XA hT F.slot_tuple_hash.lookup ?_;refine bM (by rw[beq_builtin_none];exact SR) ?_;refine R7<|XA hT F.slot_tuple_hash.lookup ?_;refine R7<|wpAny_callSpecialIfBoundUnlessNone?_slot hT abg<|Uw abg hT F.entry_tuple_hash ?_<|F.args_tuple_hash_1 _;show Sm _ _ (XK (.ref a)>>=_) _ _ s;refine R7<|wpAny_tupleItemsOf ho rfl ?_;refine R7 ?_;rw[←US];refine Uu _
   (λrest b s'=>∃done left,l=done++left/\fT s.heap rest left/\b.toList=done.map (AV.hash S d)/\s'={s with toks:=s.toks+(done.map (AV.draws d)).sum})
   _ ?_ ?_ _ _ ⟨[],l,rfl,hi,rfl,rfl⟩
  ·rintro x rest b s' ⟨done,left,e,hl',hb,rfl⟩
   refine fT.HJ (λk' ks' h1 h2 e=> ?_) hl' e;refine R7<|ih k' (e▸V1 done (.head ks')) {s with toks:=s.toks+(done.map (AV.draws d)).sum} A.in1 _ _ _ h1 hu1 ?_;have r:s.toks+(done.map (AV.draws d)).sum+AV.draws d k'=s.toks+((done++[k']).map<|AV.draws d).sum:=by rw[S3,List.sum_append,T7,Zo,List.sum_cons,List.sum_nil,Nat.add_zero,Uh]
   first
    |exact Sg ⟨done++[k'],ks',e.trans<|aaD ..,h2,by rw[WA,hb,S3];rfl,R6 (λn=>{s with toks:=n}) r⟩
    |exact R7<|Sg<|Sg ⟨done++[k'],ks',e.trans<|aaD ..,h2,by rw[WA,hb,S3];rfl,R6 (λn=>{s with toks:=n}) r⟩
  ·rintro b s' ⟨done,left,e,hl',hb,rfl⟩
   refine fT.QA (λe=> ?_) hl' e;rw[SP] at e;subst e;show Sm _ _ (retInt<|TM b.toList) _ _ _;rw[hb];refine wpAny_ret_mkInt ?_;show Sm _ _ (if(decide (-2^63<=TM (l.map<|AV.hash S d))&&decide (TM (l.map<|AV.hash S d)<2^63))=R8 then _ else _) Q E _
   replace hQ:Q (abj<|TM<|l.map<|AV.hash S d) {s with toks:=s.toks+(l.map<|AV.draws d).sum+1}:=hQ
   unfold abj at hQ
   by_cases hr:(decide (-2^63<=TM (l.map<|AV.hash S d))&&decide (TM (l.map<|AV.hash S d)<2^63))=R8
   ·rw[Sv hr]
    rw[Sv hr] at hQ;exact Sg hQ
   ·rw[SI hr]
    rw[SI hr] at hQ;exact R7<|Uz<|Sg hQ
end
theorem ya{d:Sf}{k:AV}{Q:Sq->Sn->Prop}(hf:d<=f)(hk:KV s.heap v k)(hd:k.key d=R8)(h:Q R8 s):Sm M A (eqIsQuiet f v) Q E s:=by
 refine AV.j5 (P:=λd k=>∀(v:Se) (f:Sf) (Q:Sq->Sn->Prop),d<=f->KV s.heap v k->Q R8 s->Sm M A (eqIsQuiet f v) Q E s) ?_ ?_ ?_ hd v f Q hf hk h
 ·exact λu0 i v f Q u1 hk h=>hk.eS λt=>(R6 (λc=>Sm M A c Q E s)<|eqIsQuiet_byValue _ rfl).mpr<|Sg h
 ·exact λu0 i u1 v f Q u2 hk h=>hk.nK λx t O=>(R6 (λc=>Sm M A c Q E s)<|eqIsQuiet_byValue _ rfl).mpr<|Sg h
 ·refine λd l hl ih v f Q hf hk h=>hk.gy λa vs n ho hi=>SW f (λh=>TL h<|ZV d) (λf hf=> ?_) hf
  have hf:=Xa hf;have hT:s.TypeIs (.ref a) "tuple":=⟨_,ho,rfl⟩;unfold eqIsQuiet;refine R7<|XA hT F.slot_tuple_eq.lookup ?_;refine R7<|UW hT isSubtype_tuple_tuple ?_;refine bM SR ?_;refine R7<|XQ ho rfl ?_;refine R7 ?_;rw[←US];refine Uu _ (λrest r s'=>r.1=Sd/\s'=s/\∃left,fT s.heap rest left/\∀x∈left,x∈l) _ ?_ ?_ _ _ ⟨rfl,rfl,l,hi,λu0 h=>h⟩
  ·rintro v rest r s' ⟨hr,rfl,left,hv,hall⟩
   refine fT.HJ (λk' ks' h1 h2 hall=> ?_) hv hall;refine R7<|ih k' (hall _<|.head _) v f _ hf h1 ?_;refine bM SR ?_;exact Sg ⟨rfl,rfl,_,h2,λx h=>hall x<|.tail _ h⟩
  ·rintro ⟨r1,r2⟩ s' ⟨hr,rfl,_⟩
   obtain rfl:r1=none:=hr;exact Sg h
theorem CJ{x y:AV}{Q:Sq->Sn->Prop}(hu:A.units+64<WL)(hx:KV s.heap u x)(hy:KV s.heap v y)(kx:x.key 4=R8)(ky:y.key 4=R8)
  (h:Q (AV.beq 4 x y) s):Sm (md S) A (eqBool u v) Q E s:=
 (hx.reads kx).elim λas ra=>(hy.reads ky).elim λbs rb=>
  have px:=mR kx;have py:=mR ky;have lx:=kK px
  SeqAt.eqAt_reads x.py y.py A s u v as bs ra rb lx.1 (kK py).1 (Sb (S2 (Ss (Nat.min_le_left _ _)<|Ss lx.2 (by decide)) A.units) hu) S.prog S.w E Q ((sU px py).symm▸h)
open Classical in
noncomputable instance:Zf AV:=λa b=>Classical.propDecidable<|a=b
theorem IF{x y:AV}(h:x.plain n=R8):AV.beq n x y=decide (x=y):=Bool.eq_iff_iff.mpr<|(beq_iff h).trans (decide_eq_true_iff).symm
def fj(S:bf):HeapKind S.prog S.w AV where
 is:=λh k a=>KV h (.ref a) k/\k.key 4=R8
 hash:=AV.hash S 4
 draws:=AV.draws 4
 room:=λA=>A.units+64<WL
 inj:=λhx hy=>hx.1.inj hx.2 hy.1
 keeps:=fun{h h' k a d o es ep} x ho hd hs=>⟨x.1.keeps (λb vs n e=>(hs.2 b λq=>by subst q;rw[ho] at e;cases e;cases hd).trans e) x.2,x.2⟩
 pyHash:=λhu hk h=>D4 hk.1 hk.2 (Sb (S2 (by decide:5<=64) _) hu) h
 eqBool:=λhu hx hy h=>CJ hu hx.1 hy.1 hx.2 hy.2 ((IF<|mR hx.2).symm▸h)
 quiet:=λhk h=>ya (by decide) hk.1 hk.2 h
noncomputable def fq(s:Sn)(Q:Sn->Prop):Prop:=∀s',s'.heap=s.heap->s'.gens=s.gens->s'.os=s.os->Q s'
inductive LL(S:bf)(W:Wd)(p:R5 AV×AV):AV×SJ×Se->Prop
 |mk {a:SJ} {v:Se}:AV.key 4 (.tup p.1)=R8->RV S W (.ref a) (.tup p.1)->RV S W v p.2->LL S W p (.tup p.1,a,v)
noncomputable def fm(S:bf)(W:Wd)(xs:R5 (AV×SJ×Se))(l:R5 (R5 AV×AV)):Prop:=
 S8 (motive:=λu0=>R5 (AV×SJ×Se)->Prop) (λxs=>xs=[]) (λp O ih=>aG (LL S W p) ih) l xs
namespace fm
section
variable{P:R5 (AV×SJ×Se)->Prop}
theorem nil:fm S W [] []:=rfl
theorem cons{p:R5 AV×AV}{xs:R5 (AV×SJ×Se)}{l:R5 (R5 AV×AV)}(h1:AV.key 4 (.tup p.1)=R8)(h2:RV S W (.ref a) (.tup p.1))(h3:RV S W v p.2)(h:fm S W xs l):fm S W ((.tup p.1,a,v)::xs) (p::l):=aG.mk (.mk h1 h2 h3) h
theorem bN{xs:R5 (AV×SJ×Se)}(h:fm S W xs [])(k:P []):P xs:= @V0 _ _ (λv O=>P v) k _<|Wf h
theorem aU{xs:R5 (AV×SJ×Se)}{p:R5 AV×AV}{l:R5 (R5 AV×AV)}(h:fm S W xs (p::l))(k:∀a v xs,AV.key 4 (.tup p.1)=R8->RV S W (.ref a) (.tup p.1)->RV S W v p.2->fm S W xs l->P ((.tup p.1,a,v)::xs)):P xs:=
 aG.casesOn h λa b=>LL.casesOn a λh1 h2 h3=>k _ _ _ h1 h2 h3 b
end
theorem KN{l:R5 (R5 AV×AV)}:∀{xs:R5 (AV×SJ×Se)},fm S W xs l->df S W (xs.map<|Yn<|fj S) l:=by
 induction l with
 |nil=>exact λr=>r.bN (P:=λxs=>df S W (xs.map<|Yn<|fj S) []) df.nil
 |cons p l ih=>exact λr=>r.aU (P:=λxs=>df S W (xs.map<|Yn<|fj S) (p::l)) λa v xs h1 h2 h3 h=>df.cons rfl h1 h2 h3 (ih h)
theorem mono(L:W.Le W'){l:R5 (R5 AV×AV)}:∀{xs:R5 (AV×SJ×Se)},fm S W xs l->fm S W' xs l:=by
 induction l with
 |nil=>exact λr=>r
 |cons p l ih=>exact λr=>r.aU (P:=λxs=>fm S W' xs (p::l)) λa v xs h1 h2 h3 h=> .cons h1 (h2.mono L) (h3.mono L)<|ih h
theorem is{l:R5 (R5 AV×AV)}:∀{xs:R5 (AV×SJ×Se)},fm S W xs l->∀x∈xs,(fj S).is W.h x.1 x.2.1:=by
 induction l with
 |nil=>exact λr=>r.bN (P:=λxs=>∀x∈xs,(fj S).is W.h x.1 x.2.1) λu0 h=>nomatch h
 |cons p l ih=>exact λr=>r.aU (P:=λxs=>∀x∈xs,(fj S).is W.h x.1 x.2.1) λa v xs h1 h2 h3 h x hx=>(List.mem_cons.mp hx).elim (λe=>e▸⟨h2.kv h1,h1⟩)<|ih h x
theorem keys{l:R5 (R5 AV×AV)}:∀{xs:R5 (AV×SJ×Se)},fm S W xs l->xs.map (·.1)=(l.map (·.1)).map AV.tup:=by
 induction l with
 |nil=>exact λr=>r.bN (P:=λxs=>xs.map (·.1)=[]) rfl
 |cons p l ih=>exact λr=>r.aU (P:=λxs=>xs.map (·.1)=((p::l).map (·.1)).map AV.tup) λa v xs h1 h2 h3 h=>R6 _<|ih h
theorem length{xs:R5 (AV×SJ×Se)}{l:R5 (R5 AV×AV)}(r:fm S W xs l):xs.length=l.length:=
 Sr (as:=xs) (·.1)▸r.keys▸(Sr ..).trans (Sr ..)
theorem nodup{xs:R5 (AV×SJ×Se)}{l:R5 (R5 AV×AV)}(x:fm S W xs l)(nd:(l.map (·.1)).Nodup):(xs.map (·.1)).Nodup:=
 x.keys▸Xc _ (λa b h e=>h<|AV.ou e) nd
inductive El(S:bf)(W:Wd)(k:R5 AV)(xs:R5 (AV×SJ×Se))(l:R5 (R5 AV×AV)):Prop
 |no:Z3 xs (.tup k)=Sd->bX k l=Sd->El S W k xs l
 |yes (p:SJ×Se) (x:AV):Z3 xs (.tup k)=KX p->bX k l=KX x->RV S W p.2 x->El S W k xs l
theorem Kn{k:R5 AV}{xs:R5 (AV×SJ×Se)}:Z3 ((.tup k,a,v)::xs) (.tup k)=KX (a,v):=by simp[Z3]
theorem CU{k k':R5 AV}{xs:R5 (AV×SJ×Se)}(h:¬k'=k):Z3 ((.tup k',a,v)::xs) (.tup k)=Z3 xs (.tup k):=by have n2:=eq_false λe=>h<|AV.ou e;simp only[Z3,aaU,n2,aag]
theorem at_(k:R5 AV){l:R5 (R5 AV×AV)}:∀{xs:R5 (AV×SJ×Se)},fm S W xs l->El S W k xs l:=by
 induction l with
 |nil=>exact λr=>r.bN (P:=λxs=>El S W k xs [])<|.no rfl rfl
 |cons p l ih=>
  refine λr=>r.aU (P:=λxs=>El S W k xs (p::l)) λa v xs h1 h2 h3 h=> ?_;have q:=vV (b:=k) h1
  by_cases e:p.1=k
  ·exact .yes (a,v) p.2 (e▸Kn) (Sv<|q.mpr e) h3
  ·have n:bX k (p::l)=bX k l:=SI λz=>e<|q.mp z
   exact(ih h).casesOn (λa b=> .no ((CU e).trans a)<|n.trans b) λp x a b c=> .yes p x ((CU e).trans a) (n.trans b) c
theorem app{p:R5 AV×AV}(h1:AV.key 4 (.tup p.1)=R8)(h2:RV S W (.ref a) (.tup p.1))(h3:RV S W v p.2){l:R5 (R5 AV×AV)}:
  ∀{xs:R5 (AV×SJ×Se)},fm S W xs l->fm S W (xs++[(.tup p.1,a,v)]) (l++[p]):=by
 induction l with
 |nil=>exact λr=>r.bN (P:=λxs=>fm S W (xs++[(.tup p.1,a,v)]) [p])<|.cons h1 h2 h3 .nil
 |cons q l ih=>exact λr=>r.aU (P:=λxs=>fm S W (xs++[(.tup p.1,a,v)]) (q::(l++[p]))) λu0 u1 u2 a b c d=> .cons a b c<|ih d
theorem _root_.Mine.df.Qq{l:R5 (R5 AV×AV)}:∀{es:R5 Sk},df S W es l->∃xs,es=xs.map (Yn<|fj S)/\fm S W xs l:=by
 induction l with
 |nil=>exact λr=>r.bN ⟨[],rfl,.nil⟩
 |cons p l ih=>exact λr=>r.aU λe es h1 h2 h3 h4 h5=>(ih h5).elim λxs q=>
   DictEntry.casesOn e (λeh ek ev h1 h3 h4=>
    h3.gy (P:=λek=>∃xs,(⟨eh,ek,ev⟩)::es=xs.map (Yn<|fj S)/\fm S W xs (p::l)) λa vs n ho hl hi=>⟨(.tup p.1,a,ev)::xs,congr (R6 (λh=>List.cons<|⟨h,.ref a,ev⟩) h1) q.1,.cons h2 (.tup ho hl hi) h4 q.2⟩) h1 h3 h4
end fm
theorem Eo{k:R5 AV}{v:AV}{l:R5 (R5 AV×AV)}:bX k l=Sd->hG k v l=l++[(k,v)]:=by
 induction l with
 |nil=>exact λu0=>rfl
 |cons p l ih=>
  by_cases e:kF p.1 k=R8
  ·exact λh=>oA<|(Sv e).symm.trans h
  ·exact λh=>(SI e).trans<|R6 _<|ih<|(SI e).symm.trans h
namespace fm
theorem KI{k:R5 AV}{x:AV}(h3:RV S W v x){l:R5 (R5 AV×AV)}:∀{xs:R5 (AV×SJ×Se)},fm S W xs l->(l.map (·.1)).Nodup->(bX k l).isSome=R8->fm S W (xs.map<|putAt (.tup k) v) (hG k x l):=by
 induction l with
 |nil=>exact λu0 u1 h=>bc h
 |cons p l ih=>
  refine λr nd h=>r.aU (P:=λxs=>fm S W (xs.map<|putAt (.tup k) v)<|hG k x (p::l)) λa v' xs a1 b1 c1 d1=> ?_;have nd:=List.nodup_cons.mp nd;have q:=vV (b:=k) a1
  by_cases e:p.1=k
  ·have nm:=λhm=>(List.mem_map.mp<|d1.keys▸hm).elim λz hz=>nd.1 ((R6 (·∈l.map (·.1))<|(AV.ou hz.2).trans e.symm).mp hz.1)
   rw[T7,map_putAt_of_not_mem xs _ _ nm,putAt,Sv<|R6 _ e,pX,Sv<|q.mpr e];exact .cons a1 b1 h3 d1
  ·have n:=λz=>e<|q.mp z
   rw[T7,putAt,SI<|λz=>e<|AV.ou z,pX,SI n];exact .cons a1 b1 c1<|ih d1 nd.2<|(R6 YR<|SI n).symm.trans h
theorem put{p:R5 AV×AV}{xs:R5 (AV×SJ×Se)}{l:R5 (R5 AV×AV)}(r:fm S W xs l)(nd:(l.map (·.1)).Nodup)(h1:AV.key 4 (.tup p.1)=R8)(h2:RV S W (.ref a) (.tup p.1))(h3:RV S W v p.2):
  fm S W (storedH xs (.tup p.1) a v) (hG p.1 p.2 l):=
 (r.at_ p.1).casesOn (λe1 e2=>storedH_new e1 a v▸Eo e2▸r.app h1 h2 h3) λu0 u1 e1 e2 u2=>storedH_old e1 a v▸r.KI h3 nd (e2▸rfl)
theorem HO{l:R5 (R5 AV×AV)}(g:W.h.get? d=KX (aI es n))(r:df S W es l)(nd:(l.map (·.1)).Nodup):∃xs,W.h.DictOfH (fj S) d xs/\fm S W xs l:=
 r.Qq.elim λxs q=>⟨xs,⟨_,_,_,g,⟨rfl,rfl,rfl⟩,rfl,q.1,q.2.is,q.2.nodup nd⟩,q.2⟩
end fm
theorem tP{h:Tu}{es:Td Sk}(g:h.get? a=KX o)(x:o.ExactDict)(d:o.data=.dict es ep):h.get? a=KX (aI es.toList ep):=
 g.trans (R6 KX<|YB o (λc dd dt sl x e=>by cases x.1;cases x.2.1;cases x.2.2;cases e;rfl) x d)
section
theorem te{k:R5 AV}{l:R5 (R5 AV×AV)}{P:Se->Prop}(hs:s.heap=W.h)(hu:A.units+200<WL)(hk:RV S W u (.tup k))(kk:AV.key 4 (.tup k)=R8)(g:W.h.get? d=KX (aI es n))(r:df S W es l)(nd:(l.map (·.1)).Nodup)
  (h:∀a xs,RV S W (.ref a) (.tup k)->(fj S).room A.in1->(fj S).is s.heap (.tup k) a->s.heap.DictOfH (fj S) d xs->fm S W xs l->P (.ref a)):P u:=
 (fm.HO g r nd).elim λxs q=>hk.gy λa O u1 e1 e2 e3=>h a xs (.tup e1 e2 e3) (Sb (Uh A.units 1 64▸S2 (by decide:65<=200) _) hu) (hs▸⟨RV.kv (RV.tup e1 e2 e3) kk,kk⟩) (hs▸q.1) q.2
theorem yx{k:R5 AV}{l:R5 (R5 AV×AV)}(hs:s.heap=W.h)(hu:A.units+200<WL)(hk:RV S W u (.tup k))(kk:AV.key 4 (.tup k)=R8)
  (g:W.h.get? d=KX (aI es n)) (r:df S W es l) (nd:(l.map (·.1)).Nodup) (hd:(d==UA)=Sj)
  (h:fq s (Q<|.bool<|(bX k l).isSome !=neg)):Sm (md S) A (Ux (if neg then .NotIn else .In) u<|.ref d) Q E s:=by
 refine te (P:=λu=>Sm (md S) A (Ux (if neg then .NotIn else .In) u<|.ref d) Q E s) hs hu hk kk g r nd λa xs O room key m x=> ?_;have e:(Z3 xs<|.tup k).isSome=(bX k l).isSome:=(x.at_ k).casesOn (λa b=>a▸b▸rfl) λu0 u1 a b u2=>a▸b▸rfl;have h:=h {s with toks:=s.toks+(fj S).draws (.tup k)} rfl rfl rfl
 induction neg using Tb
 ·exact wpAny_in_heap room key hd m<|e▸(R6 (λb=>Q (.bool b) _)<|Ws _).mp h
 ·exact PyProof.Rows.wpAny_notIn_heap room key hd m<|e▸(R6 (λb=>Q (.bool b) _)<|XM _).mp h
theorem Ar{k:R5 AV}{y:AV}{l:R5 (R5 AV×AV)}(hs:s.heap=W.h)(hu:A.units+200<WL)(hk:RV S W u (.tup k))(kk:AV.key 4 (.tup k)=R8)
  (g:W.h.get? d=KX (aI es n)) (r:df S W es l) (nd:(l.map (·.1)).Nodup) (e:bX k l=KX y)
  (h:∀v,RV S W v y->fq s (Q v)):Sm (md S) A (Xv (.ref d) u) Q E s:=
 te (P:=λu=>Sm (md S) A (Xv (.ref d) u) Q E s) hs hu hk kk g r nd λa xs O room key m x=>(x.at_ k).casesOn (λu0 b=>au<|b.symm.trans e) λp O e1 e2 rv=>wpAny_getItem_heap room key m e1<|h _ (rv.to<|e2.symm.trans e) _ rfl rfl rfl
theorem zT{k:R5 AV}{y:AV}{l:R5 (R5 AV×AV)}{Q:TZ->Sn->Prop}(hs:s.heap=W.h)(hu:A.units+200<WL)(hk:RV S W u (.tup k))(kk:AV.key 4 (.tup k)=R8)(hv:RV S W v y)
  (hl:W.ah d=KX ℓ) (hℓ:ℓ≠ .out) (g:W.h.get? d=KX (aI es n)) (r:df S W es l) (nd:(l.map (·.1)).Nodup) (sz:aw l.length=R8)
  (h:∀s' es' n',SO d W.h s'.heap->s'.gens=s.gens->s'.os=s.os->W.Mv (·=ℓ) (W.grow s'.heap)->s'.heap.get? d=KX (aI es' n')->df S (W.grow s'.heap) es' (hG k y l)->((hG k y l).map (·.1)).Nodup->Q () s'):
  Sm (md S) A (X4 (.ref d) u v) Q E s:=by refine te (P:=λu=>Sm (md S) A (X4 (.ref d) u v) Q E s) hs hu hk kk g r nd λa xs hk room key m x=>wpAny_setItem_heap room key m (λh' m' sb=> ?_)<|x.length.symm▸SQ (Sw (cJ sz) (by decide));have sb:=(R6 (λq=>SO d q h') hs).mp sb;have mv:=Wd.fG hl sb;have le:=mv.le λq=>hℓ q.symm;have x':=(x.mono le).put (p:=(k,y)) nd kk (hk.mono le)<|hv.mono le;obtain ⟨o,es',ep,m1,m2,m3,m4,m5,m6⟩:=m';exact h {s with heap:=h',toks:=s.toks+(fj S).draws (.tup k)} es'.toList ep sb rfl rfl mv (tP m1 m2 m3) (m4▸x'.KN) (Yw _ (λa b h e=>h<|R6 _ e)<|x'.keys▸m6)
end
section
variable{K K':Type}[Zf K'][Zf K]
noncomputable def tY(k:K')(l:R5 (K'×AV)):Sh AV:=S8 Sd (λp O ih=>if p.1=k then KX p.2 else ih) l
noncomputable def Bq(k:K')(v:AV)(l:R5 (K'×AV)):R5 (K'×AV):=S8 [(k,v)] (λp l ih=>if p.1=k then(p.1,v)::l else p::ih) l
inductive Mb(S:bf)(W:Wd)(g:K'->K)(p:K'×AV):K×Se->Prop
 |mk {v:Se}:RV S W v p.2->Mb S W g p (g p.1,v)
noncomputable def PG(S:bf)(W:Wd)(g:K'->K)(xs:R5 (K×Se))(l:R5 (K'×AV)):Prop:=S8 (motive:=λu0=>R5 (K×Se)->Prop) (λxs=>xs=[]) (λp O ih=>aG (Mb S W g p) ih) l xs
structure OV(S:bf)(W:Wd)(κ:KeyKind S.prog S.w K)(g:K'->K)(p:K'×AV)(e:Sk):Prop where
 is:κ.is (g p.1) e.key=R8
 hash:e.hash=κ.hash (g p.1)
 val:RV S W e.val p.2
noncomputable def Gd(S:bf)(W:Wd)(κ:KeyKind S.prog S.w K)(g:K'->K)(es:R5 Sk)(l:R5 (K'×AV)):Prop:=S8 (motive:=λu0=>R5 Sk->Prop) (λes=>es=[]) (λp O ih=>aG (OV S W κ g p) ih) l es
variable{κ:KeyKind S.prog S.w K}{g:K'->K}
@[elab_as_elim] theorem PG.bN {P:R5 (K×Se)->Prop} {xs:R5 (K×Se)} (h:PG S W g xs ([]:R5 (K'×AV))) (k:P []):P xs:= @V0 _ _ (λv O=>P v) k _<|Wf h
@[elab_as_elim] theorem PG.aU {P:R5 (K×Se)->Prop} {xs:R5 (K×Se)} {p:K'×AV} {l:R5 (K'×AV)} (h:PG S W g xs (p::l)) (k:∀v xs,RV S W v p.2->PG S W g xs l->P ((g p.1,v)::xs)):P xs:=
 aG.casesOn h λa b=>Mb.casesOn a λr=>k _ _ r b
theorem PG.cons{p:K'×AV}{xs:R5 (K×Se)}{l:R5 (K'×AV)}(r:RV S W v p.2)(h:PG S W g xs l):PG S W g ((g p.1,v)::xs) (p::l):=aG.mk (.mk r) h
@[elab_as_elim] theorem Gd.bN {P:R5 Sk->Prop} (h:Gd S W κ g es []) (k:P []):P es:= @V0 _ _ (λv O=>P v) k _<|Wf h
@[elab_as_elim] theorem Gd.aU {P:R5 Sk->Prop} {p:K'×AV} {l:R5 (K'×AV)} (h:Gd S W κ g es (p::l)) (k:∀e es,OV S W κ g p e->Gd S W κ g es l->P (e::es)):P es:=aG.casesOn h λa b=>k _ _ a b
abbrev De(κ:KeyKind S.prog S.w K)(es:R5 Sk):Prop:=∀e∈es,∃k,κ.is k e.key=R8/\e.hash=κ.hash k
theorem Gd.keys{l:R5 (K'×AV)}:∀{es:R5 Sk},Gd S W κ g es l->De κ es:=by
 induction l with
 |nil=>exact λr=>r.bN λu0 h=>nomatch h
 |cons p l ih=>exact λr=>r.aU λe es a b x hx=>(List.mem_cons.mp hx).elim (λq=>q▸⟨g p.1,a.is,a.hash⟩)<|ih b x
theorem Gd.QK{l:R5 (K'×AV)}:∀{es:R5 Sk},Gd S W κ g es l->∃xs,Pairs κ es xs/\PG S W g xs l:=by
 induction l with
 |nil=>exact λr=>r.bN ⟨[],.nil,rfl⟩
 |cons p l ih=>exact λr=>r.aU λe es a b=>(ih b).elim λxs q=>⟨(g p.1,e.val)::xs,.cons a.is rfl q.1,.cons a.val q.2⟩
@[elab_as_elim] theorem Pairs.aU {x:K×Se} {xs:R5 (K×Se)} {P:R5 Sk->Prop} (k:∀e es,κ.is x.1 e.key=R8->e.val=x.2->Pairs κ es xs->P (e::es)):Pairs κ es (x::xs)->P es
 |.cons a b c=>k _ _ a b c
@[elab_as_elim] theorem Pairs.bN {P:R5 Sk->Prop} (k:P []):Pairs κ es []->P es
 |.nil=>k
theorem PG.KN{l:R5 (K'×AV)}:∀{xs:R5 (K×Se)} {es:R5 Sk},PG S W g xs l->Pairs κ es xs->De κ es->Gd S W κ g es l:=by
 induction l with
 |nil=>exact fun{_ es} r=>r.bN λq O=>Pairs.bN rfl q
 |cons p l ih=>exact fun{_ es} r=>r.aU λv xs a b q=>Pairs.aU (λe es h1 h2 h3 c=>aG.mk ⟨h1,(c e<|.head _).elim λk q=>q.2.trans<|R6 κ.hash<|κ.inj _ _ _ q.1 h1,h2.symm▸a⟩<|ih b h3 λe he=>c e<|.tail _ he) q
theorem PG.up(L:W.Le W'){l:R5 (K'×AV)}:∀{xs:R5 (K×Se)},PG S W g xs l->PG S W' g xs l:=by
 induction l with
 |nil=>exact λr=>r
 |cons p l ih=>exact λr=>r.aU λv xs a b=> .cons (a.mono L)<|ih b
theorem PG.keys{l:R5 (K'×AV)}:∀{xs:R5 (K×Se)},PG S W g xs l->xs.map (·.1)=(l.map (·.1)).map g:=by
 induction l with
 |nil=>exact λr=>r.bN rfl
 |cons p l ih=>exact λr=>r.aU λv xs a b=>R6 _<|ih b
theorem PG.length{xs:R5 (K×Se)}{l:R5 (K'×AV)}(r:PG S W g xs l):xs.length=l.length:=
 Sr (as:=xs) (·.1)▸r.keys▸(Sr ..).trans (Sr ..)
variable(gi:∀a b,g a=g b->a=b)
include gi
theorem PG.nodup{xs:R5 (K×Se)}{l:R5 (K'×AV)}(x:PG S W g xs l)(nd:(l.map (·.1)).Nodup):(xs.map (·.1)).Nodup:=x.keys▸Xc _ (λu0 u1 h e=>h<|gi _ _ e) nd
omit gi
inductive K8(S:bf)(W:Wd)(g:K'->K)(k:K')(xs:R5 (K×Se))(l:R5 (K'×AV)):Prop
 |no:X2 xs (g k)=Sd->tY k l=Sd->K8 S W g k xs l
 |yes (p:Se) (x:AV):X2 xs (g k)=KX p->tY k l=KX x->RV S W p x->K8 S W g k xs l
theorem AE{k:K}{xs:R5 (K×Se)}:X2 ((k,v)::xs) k=KX v:=by simp[X2]
theorem ti{k k':K}{xs:R5 (K×Se)}(h:¬k'=k):X2 ((k',v)::xs) k=X2 xs k:=by simp only[X2,aaU,h,aag]
theorem CT{k:K}{v':Se}{xs:R5 (K×Se)}(h:k∉xs.map (·.1)):Zy ((k,v')::xs) k v=(k,v)::xs:=by simp only[Zy,WG,decide_true,Zu,if_true,T7];rw[map_store_of_not_mem xs k v h]
theorem DL{k k':K}{v':Se}{xs:R5 (K×Se)}(e:¬k'=k):Zy ((k',v')::xs) k v=(k',v')::Zy xs k v:=by
 simp only[Zy,WG,e,aag,WH,T7]
 split<;>rfl
include gi
theorem PG.at_(k:K'){l:R5 (K'×AV)}:∀{xs:R5 (K×Se)},PG S W g xs l->K8 S W g k xs l:=by
 induction l with
 |nil=>exact λr=>r.bN<|.no rfl rfl
 |cons p l ih=>
  refine λr=>r.aU λv xs a b=> ?_
  by_cases e:p.1=k
  ·exact .yes v p.2 (e▸AE) (Sv e) a
  ·have e2:=λz=>e<|gi _ _ z
   exact(ih b).casesOn (λa b=> .no ((ti e2).trans a)<|(SI e).trans b) λp x a b c=> .yes p x ((ti e2).trans a) ((SI e).trans b) c
theorem PG.put{k:K'}{x:AV}(h3:RV S W v x){l:R5 (K'×AV)}:∀{xs:R5 (K×Se)},PG S W g xs l->(l.map (·.1)).Nodup->PG S W g (Zy xs (g k) v) (Bq k x l):=by
 induction l with
 |nil=>exact λr O=>r.bN<|PG.cons (p:=(k,x)) h3 rfl
 |cons p l ih=>
  refine λr nd=>r.aU λv' xs a b=> ?_;have nd:=List.nodup_cons.mp nd
  by_cases e:p.1=k
  ·have nm:=λhm=>(List.mem_map.mp<|b.keys▸hm).elim λz hz=>nd.1 ((R6 (·∈l.map (·.1))<|gi _ _ hz.2).mp hz.1)
   exact(R6 (λq=>PG S W g (Zy ((g p.1,v')::xs) (g q) v)<|Bq q x (p::l)) e).mp<|(congr (R6 (PG S W g)<|CT nm) (Sv rfl)).mpr<|PG.cons h3 b
  ·exact(congr (R6 (PG S W g)<|DL λz=>e<|gi _ _ z) (SI e)).mpr<|PG.cons a<|ih b nd.2
theorem Gd.dictOf{l:R5 (K'×AV)}(h:W.h.get? d=KX (aI es n))(r:Gd S W κ g es l)(nd:(l.map (·.1)).Nodup):∃xs,W.h.DictOf κ d xs/\PG S W g xs l:=
 r.QK.elim λxs q=>⟨xs,⟨_,_,_,h,⟨rfl,rfl,rfl⟩,rfl,λe he=>r.keys e<|List.mem_toArray.mp he,q.1,q.2.nodup gi nd⟩,q.2⟩
variable{l:R5 (K'×AV)}{k:K'}
theorem KG(hk:κ.is (g k) u=R8)(hs:s.heap=W.h)(h0:W.h.get? d=KX (aI es n))(r:Gd S W κ g es l)(nd:(l.map (·.1)).Nodup)(hd:(d==UA)=Sj)
  (h:fq s (Q<|.bool<|(tY k l).isSome !=neg)):Sm (md S) A (Ux (if neg then .NotIn else .In) u<|.ref d) Q E s:=by
 refine(Gd.dictOf gi h0 r nd).elim λxs q=> ?_;have m:=hs▸q.1;have e:(X2 xs<|g k).isSome=(tY k l).isSome:=(q.2.at_ gi k).casesOn (λa b=>a▸b▸rfl) λu0 u1 a b u2=>a▸b▸rfl;have h:=h {s with toks:=s.toks+1} rfl rfl rfl
 induction neg using Tb
 ·exact wpAny_in_of hk hd m.mapOf<|e▸(R6 (λb=>Q (.bool b) _)<|Ws _).mp h
 ·exact wpAny_notIn_of hk hd m.mapOf<|e▸(R6 (λb=>Q (.bool b) _)<|XM _).mp h
theorem Al{y:AV}(hk:κ.is (g k) u=R8)(hs:s.heap=W.h)(h0:W.h.get? d=KX (aI es n))(r:Gd S W κ g es l)(nd:(l.map (·.1)).Nodup)(e:tY k l=KX y)
  (h:∀v,RV S W v y->fq s (Q v)):Sm (md S) A (Xv (.ref d) u) Q E s:=
 (Gd.dictOf gi h0 r nd).elim λxs q=>(q.2.at_ gi k).casesOn (λu0 b=>au<|b.symm.trans e) λp O e1 e2 rv=>wpAny_getItem_of hk (hs▸q.1).mapOf e1<|h _ (rv.to<|e2.symm.trans e) _ rfl rfl rfl
theorem zV{y:AV}{Q:TZ->Sn->Prop}(hk:κ.is (g k) u=R8)(hs:s.heap=W.h)(hv:RV S W v y)
  (hl:W.ah d=KX ℓ) (hℓ:ℓ≠ .out) (h0:W.h.get? d=KX (aI es n)) (r:Gd S W κ g es l) (nd:(l.map (·.1)).Nodup) (sz:aw l.length=R8)
  (h:∀s' es' n',SO d W.h s'.heap->s'.gens=s.gens->s'.os=s.os->W.Mv (·=ℓ) (W.grow s'.heap)->s'.heap.get? d=KX (aI es' n')->Gd S (W.grow s'.heap) κ g es' (Bq k y l)->((Bq k y l).map (·.1)).Nodup->Q () s'):
  Sm (md S) A (X4 (.ref d) u v) Q E s:=by refine(Gd.dictOf gi h0 r nd).elim λxs q=>wpAny_setItem_pairs hk (hs▸q.1) (λh' m' sb=> ?_)<|q.2.length.symm▸SQ (Sw (cJ sz) (by decide));have sb:=(R6 (λq=>SO d q h') hs).mp sb;have mv:=Wd.fG hl sb;have le:=mv.le λq=>hℓ q.symm;have x':=(q.2.up le).put gi (k:=k) (hv.mono le) nd;obtain ⟨o,es',ep,m1,m2,m3,m4,m5,m6⟩:=m';exact h {s with heap:=h',toks:=s.toks+1} es'.toList ep sb rfl rfl mv (tP m1 m2 m3) (x'.KN m5 λe he=>m4 e<|Array.mem_toList_iff.mp he) (Yw _ (λa b h e=>h<|R6 _ e)<|x'.keys▸m6)
end
noncomputable abbrev uS(l:R5 Sf):Str:=⟨l.toArray⟩
section
theorem eQ.toG{l:R5 (SK×AV)}:∀{es:R5 Sk},eQ S W es l->Gd S W (TX S.prog S.w) id es l:=by
 induction l with
 |nil=>exact λr=>r
 |cons p l ih=>exact λr=>r.aU λt v es a b=>aG.mk ⟨Va _ _ _ _,rfl,a⟩<|ih b
theorem eW.toG{l:R5 (R5 Sf×AV)}:∀{es:R5 Sk},eW S W es l->Gd S W (strKind S.prog S.w) uS es l:=by
 induction l with
 |nil=>exact λr=>r
 |cons p l ih=>exact λr=>r.aU λk t v es q a b=>aG.mk ⟨(R6 (λl:R5 Sf=>(strKind S.prog S.w).is (uS l) (.str k t)=R8) q).mp<|Zx _ _ _ _,R6 (λl:R5 Sf=>(strKind S.prog S.w).hash<|uS l) q,a⟩<|ih b
theorem DZ{k:SK}(h:(aba prog w).is k v=R8):∃t,v=.int k t:=by
 cases v<;>simp[aba,Value.isInt] at h
 subst h;exact ⟨_,rfl⟩
theorem CD{k:SS}(h:(aa9 prog w).is k v=R8):∃t,v=.str k t:=by
 cases v<;>simp[aa9,Value.isStrOf] at h
 subst h;exact ⟨_,rfl⟩
theorem CP{e:Sk}{h:SK}{k:Se}(a:e.hash=h)(b:e.key=k):e=⟨h,k,e.val⟩:=a▸b▸rfl
theorem Gd.QY{l:R5 (SK×AV)}:∀{es:R5 Sk},Gd S W (TX S.prog S.w) id es l->eQ S W es l:=by
 induction l with
 |nil=>exact λr=>r
 |cons p l ih=>exact λr=>r.aU λe es a b=>(DZ a.is).elim λt q=>CP a.hash q▸eQ.cons a.val (ih b)
theorem Gd.toS{l:R5 (R5 Sf×AV)}:∀{es:R5 Sk},Gd S W (strKind S.prog S.w) uS es l->eW S W es l:=by
 induction l with
 |nil=>exact λr=>r
 |cons p l ih=>exact λr=>r.aU λe es a b=>(CD a.is).elim λt q=>CP a.hash q▸eW.cons a.val (ih b)
theorem xP(a b:R5 Sf)(h:uS a=uS b):a=b:=R6 (λs:SS=>s.cps.toList) h
theorem Cs{k:SK}{l:R5 (SK×AV)}(hs:s.heap=W.h)
  (g:W.h.get? d=KX (aI es n)) (r:eQ S W es l) (nd:(l.map (·.1)).Nodup) (hd:(d==UA)=Sj)
  (h:fq s (Q<|.bool<|(ez k l).isSome !=neg)):Sm (md S) A (Ux (if neg then .NotIn else .In) (.int k t)<|.ref d) Q E s:=
 KG (λu0 u1 h=>h) (Va _ _ _ _) hs g r.toG nd hd h
theorem Ap{k:SK}{y:AV}{l:R5 (SK×AV)}(hs:s.heap=W.h)
  (g:W.h.get? d=KX (aI es n)) (r:eQ S W es l) (nd:(l.map (·.1)).Nodup) (e:ez k l=KX y)
  (h:∀v,RV S W v y->fq s (Q v)):Sm (md S) A (Xv (.ref d)<|.int k t) Q E s:=
 Al (λu0 u1 h=>h) (Va _ _ _ _) hs g r.toG nd e h
theorem Jv{k:SS}{y:AV}{l:R5 (R5 Sf×AV)}(hs:s.heap=W.h)
  (g:W.h.get? d=KX (aI es n)) (r:eW S W es l) (nd:(l.map (·.1)).Nodup) (e:wj k.cps.toList l=KX y)
  (h:∀v,RV S W v y->fq s (Q v)):Sm (md S) A (Xv (.ref d)<|.str k t) Q E s:=
 Al xP (Zx _ _ _ _) hs g r.toG nd e h
theorem IX{k:SK}{y:AV}{l:R5 (SK×AV)}{Q:TZ->Sn->Prop}(hs:s.heap=W.h)(hv:RV S W v y)
  (hl:W.ah d=KX ℓ) (hℓ:ℓ≠ .out) (g:W.h.get? d=KX (aI es n)) (r:eQ S W es l) (nd:(l.map (·.1)).Nodup) (sz:aw l.length=R8)
  (h:∀s' es' n',SO d W.h s'.heap->s'.gens=s.gens->s'.os=s.os->W.Mv (·=ℓ) (W.grow s'.heap)->s'.heap.get? d=KX (aI es' n')->eQ S (W.grow s'.heap) es' (iF k y l)->((iF k y l).map (·.1)).Nodup->Q () s'):
  Sm (md S) A (X4 (.ref d) (.int k t) v) Q E s:=
 zV (λu0 u1 h=>h) (Va _ _ _ _) hs hv hl hℓ g r.toG nd sz λs' es' n' a b c d e f=>h s' es' n' a b c d e f.QY
theorem JV{k:SS}{y:AV}{l:R5 (R5 Sf×AV)}{Q:TZ->Sn->Prop}(hs:s.heap=W.h)(hv:RV S W v y)
  (hl:W.ah d=KX ℓ) (hℓ:ℓ≠ .out) (g:W.h.get? d=KX (aI es n)) (r:eW S W es l) (nd:(l.map (·.1)).Nodup) (sz:aw l.length=R8)
  (h:∀s' es' n',SO d W.h s'.heap->s'.gens=s.gens->s'.os=s.os->W.Mv (·=ℓ) (W.grow s'.heap)->s'.heap.get? d=KX (aI es' n')->eW S (W.grow s'.heap) es' (ux k.cps.toList y l)->((ux k.cps.toList y l).map (·.1)).Nodup->Q () s'):
  Sm (md S) A (X4 (.ref d) (.str k t) v) Q E s:=
 zV xP (Zx _ _ _ _) hs hv hl hℓ g r.toG nd sz λs' es' n' a b c d e f=>h s' es' n' a b c d e f.toS
end
theorem Eu(k:α){xs:R5 (Sh α)}:∀{j:Sf},xs[j]? =KX Sd->Tr ((xs.set j<|KX k).filterMap id) (k::xs.filterMap id):=by
 induction xs with
 |nil=>exact λh=>au<|List.getElem?_nil.symm.trans h
 |cons x xs ih=>
  intro j h
  induction j using SW with
  |zero=>exact(R9 h)▸ .refl _
  |succ j=>
   induction x using Sl with
   |none=>exact ih h
   |some y=>exact(ZY y<|ih h).trans<|ZX k y _
theorem has_none{xs:R5 (Sh α)}:(xs.filterMap id).length<xs.length->∃j:Sf,j<xs.length/\xs[j]? =KX none:=by
 induction xs with
 |nil=>exact λh=>TL h<|XN 0
 |cons x xs ih=>
  induction x using Sl with
  |none=>exact λh=>⟨0,VR _,rfl⟩
  |some y=>exact λh=>(ih<|Nat.lt_of_succ_lt_succ h).elim λj q=>⟨j+1,Yt q.1,q.2⟩
noncomputable def zB(M i:Sf):Nat:=(i*5+1)%M
def lF(M n:Sf):Sf->Nat:=VA id (λu f i=>f<|zB M i) n
theorem uo(M a b:Sf):∀i:Sf,lF M (a+b) i=lF M b (lF M a i):=by
 induction a with
 |zero=>exact λi=>R6 (λn=>lF M n i)<|SX b
 |succ a ih=>exact λi=>(R6 (λn=>lF M n i)<|TP a 1 b).trans<|ih<|zB M i
def KH(M n:Sf):Sf->R5 Nat:=VA (λu=> []) (λu f i=>i::f (zB M i)) n
theorem EL(M n:Sf):∀(i e:Sf),e∈KH M n i->∃j,j<n/\lF M j i=e:=by
 induction n with
 |zero=>exact λi e h=>nomatch h
 |succ n ih=>exact λi e h=>(List.mem_cons.mp h).elim (λq=>⟨0,VR _,q.symm⟩) λh=>(ih _ _ h).elim λj q=>⟨j+1,Yt q.1,q.2⟩
def pG(M:Sf):Bool:=lF M M 0==0&&(KH M M 0).foldl (λm i=>m|||2^i) 0==2^M-1
theorem abD(e:Sf)(l:R5 Sf):∀m:Sf,(l.foldl (λm i=>m|||2^i) m).testBit e=R8->m.testBit e=R8\/e∈l:=by
 induction l with
 |nil=>exact λm h=> .inl h
 |cons x l ih=>exact λm h=>(ih _ h).elim (λh=>(Bool.or_eq_true_iff.mp<|(Nat.testBit_or m (2^x) e).symm.trans h).imp id λh=>List.mem_cons.mpr<|.inl (Sa<|Nat.testBit_two_pow.symm.trans h).symm) λh=> .inr<|.tail _ h
theorem BW{M:Sf}(h:pG M=R8){i e:Sf}(hi:i<M)(he:e<M):∃j,j<M/\lF M j i=e:=
 have h:=Bool.and_eq_true_iff.mp h;have mem:=λe he=>EL M M 0 e ((abD e _ 0<|eq_of_beq h.2▸(Nat.testBit_two_pow_sub_one M e).trans (Sz he)).resolve_left λh=>nomatch (Nat.zero_testBit e).symm.trans h)
 (mem i hi).elim λa qa=>(mem e he).elim λb qb=>if q:a<=b
  then ⟨b-a,Sb (XY _ _) qb.1,(R6 (lF M<|b-a) qa.2).symm.trans ((uo M a (b-a) 0).symm.trans ((R6 (λn=>lF M n 0)<|UJ q).trans qb.2))⟩
  else ⟨M-a+b,Si (XJ (Nat.not_le.mp q) _)<|SA<|Wx<|SQ qa.1,
   (R6 (lF M<|M-a+b) qa.2).symm.trans ((uo M a (M-a+b) 0).symm.trans ((R6 (λn=>lF M n 0) ((Uh a (M-a) b).symm.trans (R6 (·+b)<|UJ<|SQ qa.1))).trans<|(uo M M b 0).trans<|(R6 (lF M b)<|eq_of_beq h.1).trans qb.2))⟩
theorem Hs:∀k,k<7->pG (8*2^k)=true:=by decide+kernel
section
variable{owner:Td (Sh Sf)}{mask:Sf}
theorem Iq{i:Sf}(h:(owner.getD i<|KX 0).isNone=R8):owner[i]? =KX none:=
 Sl (motive:=λo=>(o.getD<|KX 0).isNone=R8->o=KX Sd) owner[i]? bc (λx=>Sl x (λu=>rfl) λu=>bc) (YD▸h)
theorem IT{i:Sf}(h:owner[i]? =KX Sd):(owner.getD i<|KX 0).isNone=true:=R6 YS<|Array.getD_eq_getD_getElem?.trans<|R6 (λo:Sh (Sh Sf)=>o.getD<|KX 0) h
theorem CC(fuel i p:Sf):(∃k,SU mask owner (fuel+1) i p=KX k/\owner[k]? =KX Sd)\/
  (¬owner[i]? =KX Sd/\SU mask owner (fuel+1) i p=SU mask owner fuel (Uc mask i p).1 (Uc mask i p).2):=
 Sl (motive:=λo=>(So<|WQ mask i+1-i).find? (λk=>(owner.getD (i+k)<|KX 0).isNone)=o->(∃k,SU mask owner (fuel+1) i p=KX k/\owner[k]? =KX Sd)\/
  (¬owner[i]? =KX Sd/\SU mask owner (fuel+1) i p=SU mask owner fuel (Uc mask i p).1 (Uc mask i p).2)) _
  (λe=> .inr ⟨λh=>List.find?_eq_none.mp e 0 (List.mem_range.mpr<|Nat.sub_pos_of_lt<|Nat.lt_succ_of_le (by unfold WQ;split;exact S0 _ _;exact SN _))<|IT h,by show(match (So<|WQ mask i+1-i).find? (λk=>(owner.getD (i+k)<|KX 0).isNone) with|some k=>KX (i+k)|none=>SU mask owner fuel (Uc mask i p).1 (Uc mask i p).2)=_;rw[e]⟩)
  (λk e=> .inl ⟨i+k,by show(match (So<|WQ mask i+1-i).find? (λk=>(owner.getD (i+k)<|KX 0).isNone) with|some k=>KX (i+k)|none=>SU mask owner fuel (Uc mask i p).1 (Uc mask i p).2)=_;rw[e],Iq<|List.find?_some (p:=λk=>(owner.getD (i+k)<|KX 0).isNone) e⟩) rfl
noncomputable def rB(mask n:Sf)(q:Sf×Sf):Sf×Nat:=VA q (λu q=>Uc mask q.1 q.2) n
theorem tT(fuel i p n:Sf):∀{f:Sf},f=fuel+n->(∃k,SU mask owner f i p=KX k/\owner[k]? =KX Sd)\/
   SU mask owner f i p=SU mask owner fuel (rB mask n (i,p)).1 (rB mask n (i,p)).2:=by
 induction n generalizing fuel with
 |zero=>exact λe=> .inr<|R6 (λf=>SU mask owner f i p) e
 |succ n ih=>exact λe=>(ih (fuel+1)<|e.trans (WR fuel n).symm).elim .inl λr=>(CC fuel _ _).elim (λq=>q.elim λk q=> .inl ⟨k,r.trans q.1,q.2⟩) λq=> .inr<|r.trans q.2
theorem FI{q:Sf×Sf}(h:q.1<mask+1)(n:Sf):(rB mask n q).1<mask+1:=SW n h λn=>aap _<|VR _
theorem IU(q:Sf×Sf)(n:Sf):(rB mask n q).2=q.2/32^n:=by
 induction n with
 |zero=>exact(Nat.div_one _).symm
 |succ n ih=>exact(R6 (·/32) ih).trans<|Nat.div_div_eq_div_mul _ _ _
theorem F8(M n:Sf):∀i:Sf,lF M (n+1) i=zB M (lF M n i):=by
 induction n with
 |zero=>exact λi=>rfl
 |succ n ih=>exact λi=>ih<|zB M i
theorem C3(i:Sf):Uc mask i 0=(zB (mask+1) i,0):=rfl
theorem Ax(i n:Sf):rB mask n (i,0)=(lF (mask+1) n i,0):=by
 induction n with
 |zero=>rfl
 |succ n ih=>exact(R6 (λq:Sf×Sf=>Uc mask q.1 q.2) ih).trans<|(C3 _).trans<|R6 (λn=>(n,0)) (F8 (mask+1) n i).symm
theorem HX{i p e:Sf}(hM:pG (mask+1)=R8)(hi:i<mask+1)(hp:p<2^64)(he:e<mask+1)(h:owner[e]? =KX Sd):
  ∃k,SU mask owner (Ye mask) i p=KX k/\owner[k]? =KX none:=
 (tT (mask+2) i p 13 rfl).elim id λr=>
  have p0:=(IU _ 13).trans (Nat.div_eq_of_lt<|Sw hp (by decide))
  (BW hM (FI hi 13) he).elim λj q=>(tT (mask+1-j+1) (rB mask 13 (i,p)).1 0 j (by
   rw[TP,Wx<|SQ q.1])).elim (λz=>z.elim λk z=>⟨k,(r.trans<|R6 (SU mask owner (mask+2) _) p0).trans z.1,z.2⟩) λz=>
   (CC (mask+1-j) e 0).elim (λy=>y.elim λk y=>⟨k,(r.trans<|R6 (SU mask owner (mask+2) _) p0).trans<|z.trans<|(R6 (λq:Sf×Sf=>SU mask owner (mask+1-j+1) q.1 q.2)<|(Ax _ j).trans<|R6 (λn=>(n,0)) q.2).trans y.1,y.2⟩) λy=>TL h y.1
end
theorem Ij(h:SK):VQ h<2^64:=(ZJ<|Int.emod_nonneg h (by decide)).mpr<|Int.emod_lt_of_pos h (by decide)
noncomputable def AB(mask:Sf)(acc:Sh (Td (Sh Sf)×Sf))(h:SK):Sh (Td (Sh Sf)×Sf):=do
 let (owner,k)←acc
 let j←SU mask owner (Ye mask) (VQ h%(mask+1)) (VQ h)
 pure (owner.setIfInBounds j<|KX k,k+1)
theorem Iy{mask:Sf}{owner:Td (Sh Sf)}{h:SK}(f:SU mask owner (Ye mask) (VQ h%(mask+1)) (VQ h)=KX j):AB mask (KX (owner,k)) h=KX (owner.setIfInBounds j<|KX k,k+1):=R6 (λo:Sh Sf=>o.bind λj=>KX (owner.setIfInBounds j<|KX k,k+1)) f
noncomputable def Laid(mask:Sf)(owner:Td (Sh Sf))(k:Sf):Prop:=owner.size=mask+1/\Tr (owner.toList.filterMap id) (So k)
theorem Es{mask:Sf}(hM:pG (mask+1)=R8)(l:R5 SK):∀(owner:Td (Sh Sf)) (k:Sf),Laid mask owner k->k+l.length<=mask->
  ∃o k',l.foldl (AB mask) (KX (owner,k))=KX (o,k')/\Laid mask o (k+l.length):=by
 induction l with
 |nil=>exact λowner k h u=>⟨owner,k,rfl,h⟩
 |cons x l ih=>
  intro owner k h h3;have e3:=(TP k l.length 1);have h3:=Ss (SA e3.symm) h3;have sz:=Array.length_toList.trans h.1;refine(has_none<|Sb (SA<|h.2.length_eq.trans X5)<|Si (Sb (Ss (S0 k<|1+l.length)<|Ss (SA (Uh k 1 l.length).symm) h3)<|T5 _)<|SA sz.symm).elim λe q=> ?_;refine(HX hM (i:=VQ x%(mask+1)) (aap _<|VR _) (Ij x) (Si q.1<|SA sz)<|Xf▸q.2).elim λj f=> ?_;have pm:=Eu k<|Xf▸f.2;refine(ih (owner.setIfInBounds j<|KX k) (k+1) ⟨Array.size_setIfInBounds.trans h.1,?_⟩ h3).elim λo z=>z.elim λk' z=>⟨o,k',(R6 (λa=>l.foldl (AB mask) a)<|Iy f.1).trans z.1,e3▸z.2⟩;exact Array.toList_setIfInBounds▸pm.trans ((ZY k h.2).trans<|Vz▸(List.perm_append_singleton k _).symm)
theorem zg{mask:Sf}(hM:pG (mask+1)=R8)(hashes:Td SK)(hn:hashes.size<=mask):
  ∃owner,SetTable.layClean mask hashes=KX owner/\owner.size=mask+1/\Tr (owner.toList.filterMap id) (So hashes.size):=by
 refine(Es hM hashes.toList (Array.replicate (mask+1) Sd) 0 ⟨Array.size_replicate,?_⟩ (by rw[SX,TG];exact hn)).elim λo z=>z.elim λk z=>⟨o,?_,z.2.1,by have q:=z.2.2;rwa [SX,TG] at q⟩
 ·rw[Array.toList_replicate,List.filterMap_replicate_of_none rfl];exact .refl _
 ·show(hashes.foldl (AB mask) _).map VJ=_
  rw[←Array.foldl_toList,z.1];rfl
theorem filterMap_get(f:α->Sh β):∀(l:R5 α),(So l.length).filterMap (λj=>(l[j]?).bind f)=l.filterMap f:=by
 intro l
 induction l with
 |nil=>
  exact rfl
 |cons x l ih=>
  rw[TC,List.range_succ_eq_map,Wl];have:((So l.length).map Nat.succ).filterMap (λj=>((x::l)[j]?).bind f)=l.filterMap f:=by
   rw[Z5];rw[←ih]
   congr 1
  rw[this,Wl]
  cases h:f x<;>simp_all
theorem zv{mask:Sf}(hM:pG (mask+1)=R8)(finger moves:Sf)(led plain:Sq)(es:Td (SK×Se))(hn:es.size<=mask):
  ∃t order,aal mask finger moves led plain (es.map (·.1))=KX (t,order)/\t.mask=mask/\t.led=led/\t.dummies= #[]/\t.fits es.size=R8/\Tr (order.filterMap (es[·]?)).toList es.toList:=by
 obtain ⟨owner,h1,h2,h3⟩:=zg hM (es.map (·.1)) (by simpa using hn);rw[Array.size_map] at h3;unfold aal;rw[h1];have live2:((So<|mask+1).filterMap λj=>(owner.getD j Sd).map (j,·)).map (·.2)=owner.toList.filterMap id:=by
  rw[List.map_filterMap,←filterMap_get id owner.toList,TG,h2]
  congr 1
  funext j
  rw[Xf,YD]
  cases owner[j]? with
  |none=>rfl
  |some o=>cases o<;>rfl
 have lenL:((So<|mask+1).filterMap λj=>(owner.getD j Sd).map (j,·)).length=es.size:=by rw[←Sr,live2,h3.length_eq,X5]
 refine ⟨_,_,rfl,rfl,rfl,rfl,?_,?_⟩
 ·unfold YA aam
  simp only[Te,Sr];rw[lenL];simp[hn]
 ·rw[Array.toList_filterMap,List.toList_toArray,live2]
  refine(h3.filterMap _).trans ?_;rw[filterMap_getElem?_range]
namespace FF
theorem xS:Slot "frozenset" (dunder "sub") "frozenset.__sub__":=
 .of (owner:="frozenset") (n:="__sub__") (by rw[T4,Ti];kernel_rfl) (by decide+kernel) (by decide+kernel) (by decide+kernel)
  (by first|exact .inl (by decide+kernel)|exact .inr (by decide+kernel)) (by rw[Vt];kernel_rfl)
theorem Ec:fillsNumberSlot (.type "frozenset") "sub"=pure true:=
 abm (id:="frozenset.__sub__") (r:=KX<|.builtin "frozenset.__rsub__") (by rw[T4,Ti];kernel_rfl) (by decide+kernel) (by rw[T4,Ti];kernel_rfl)
theorem zt:Slot "frozenset" (dunder "or") "frozenset.__or__":=
 .of (owner:="frozenset") (n:="__or__") (by rw[T4,Ti];kernel_rfl) (by decide+kernel) (by decide+kernel) (by decide+kernel)
  (by first|exact .inl (by decide+kernel)|exact .inr (by decide+kernel)) (by rw[Vt];kernel_rfl)
theorem EX:fillsNumberSlot (.type "frozenset") "or"=pure true:=
 abm (id:="frozenset.__or__") (r:=KX<|.builtin "frozenset.__ror__") (by rw[T4,Ti];kernel_rfl) (by decide+kernel) (by rw[T4,Ti];kernel_rfl)
theorem k8:Slot "frozenset" "__contains__" "frozenset.__contains__":=
 .of (owner:="frozenset") (n:="__contains__") (by rw[T4,Ti];kernel_rfl) (by decide+kernel) (by decide+kernel) (by decide+kernel)
  (by first|exact .inl (by decide+kernel)|exact .inr (by decide+kernel)) (by rw[Vt];kernel_rfl)
theorem qw:Slot "frozenset" "__init__" "object.__init__":=
 .of (owner:="object") (n:="__init__") (by rw[T4,Ti];kernel_rfl) (by decide+kernel) (by decide+kernel) (by decide+kernel)
  (by first|exact .inl (by decide+kernel)|exact .inr (by decide+kernel)) (by rw[Vt];kernel_rfl)
theorem entry_sub:YH table "frozenset.__sub__"=KX VN.«frozenset.__sub__»:=Wj (by kernel_rfl)
theorem Ez:YH table "frozenset.__or__"=KX VN.«frozenset.__or__»:=Wj (by kernel_rfl)
theorem uW:YH table "frozenset.__contains__"=KX VN.«frozenset.__contains__»:=Wj (by kernel_rfl)
theorem vo:YH table "frozenset.__new__"=KX VN.«frozenset.__new__»:=Wj (by kernel_rfl)
theorem sub_self:isSubtype (.type "frozenset") (.type "frozenset")=pure true:=by rw[Vt];kernel_rfl
theorem Am:isSubtype (.type "frozenset") (.type "set")=pure false:=by rw[Vt];kernel_rfl
theorem mro:mroOf (.type "frozenset")=pure [.type "frozenset",.type "object"]:=by rw[mroOf_type];kernel_rfl
theorem BY:Wh (.type "frozenset") "__new__"=pure (KX<|.builtin "frozenset.__new__"):=by rw[T4,Ti];kernel_rfl
theorem called:TypeCalled "frozenset" "frozenset.__new__" "object.__init__":=
 ⟨by decide+kernel,by decide+kernel,⟨_,_,mro⟩,madeBy_type mro BY (by decide+kernel),by decide+kernel,by rw[Vt];kernel_rfl,qw⟩
theorem AZ:checkTypeCall "frozenset" ⟨[],[]⟩=pure ():=by kernel_rfl
theorem Bf(a:Se):checkTypeCall "frozenset" ⟨[a],[]⟩=pure ():=by kernel_rfl
theorem Dx:Uy "frozenset.__new__" ⟨[.type "frozenset"],[]⟩=pure ():=by kernel_rfl
theorem Dc(a:Se):Uy "frozenset.__new__" ⟨[.type "frozenset",a],[]⟩=pure ():=by kernel_rfl
end FF
theorem FF.owner:Manifest.owners.lookup (String.ofList ['t','e','s','n','e','z','o','r','f'].reverse)=KX Manifest.sig_frozenset:=by kernel_rfl
theorem FF.Gq(a b:Se):aak "frozenset.__sub__" ⟨[a,b],[]⟩:=by unfold aak;rw[ZQ (n:=['_','_','b','u','s','_','_']) (by kernel_rfl) FF.owner];kernel_rfl
theorem FF.It(a b:Se):aak "frozenset.__or__" ⟨[a,b],[]⟩:=by unfold aak;rw[ZQ (n:=['_','_','r','o','_','_']) (by kernel_rfl) FF.owner];kernel_rfl
theorem FF.vZ(a b:Se):aak "frozenset.__contains__" ⟨[a,b],[]⟩:=by unfold aak;rw[ZQ (n:=['_','_','s','n','i','a','t','n','o','c','_','_']) (by kernel_rfl) FF.owner];kernel_rfl
theorem Lq{α:Type}(next:Sf->Sf)(fuel k:Sf){left:R5 α}{out:Td α}{x:α}(h:left[next k%left.length]? =KX x):Xt next (fuel+1) k left out=Xt next fuel (k+1) (left.eraseIdx (next k%left.length)) (out.push x):=by show(match left[next k%left.length]? with|some x=>Xt next fuel (k+1) (left.eraseIdx (next k%left.length)) (out.push x)|none=>out)=_;rw[h]
theorem Io{α:Type}(next:Sf->Sf)(fuel:Sf):∀(k:Sf) (left:R5 α) (out:Td α),left.length=fuel->Tr (Xt next fuel k left out).toList (out.toList++left):=by
 induction fuel with
 |zero=>exact λk left out h=>(R6 (λl=>Tr out.toList<|out.toList++l)<|List.length_eq_zero_iff.mp h).mpr<|(R6 (Tr out.toList)<|SP _).mpr<|.refl _
 |succ fuel ih=>
  intro k left out h;have lt:next k%left.length<left.length:=aap _<|h▸VR _
  refine(R6 (λa:Td α=>Tr a.toList<|out.toList++left)<|Lq next fuel k (S4 lt)).mpr ((ih (k+1) _ _ ((List.length_eraseIdx_of_lt lt).trans (R6 (·-1) h))).trans ?_);rw[WA,Tf];refine List.Perm.append_left _ ?_;have e:left=left.take (next k%left.length)++left[next k%left.length]::left.drop (next k%left.length+1):=by rw[Zp,Ut]
  rw[List.eraseIdx_eq_take_drop_succ]
  conv=>rhs;rw[e]
  rw[List.singleton_append];exact List.perm_middle.symm
theorem CN(next:Sf->Sf)(xs:Td α):Tr (pickOrder next xs).toList xs.toList:=by
 unfold pickOrder
 simpa using Io next xs.size 0 xs.toList #[] rfl
theorem QD(h k:SK)(t:Tok):cW (h,.int k t)=k:=rfl
namespace dY
variable{es:Td (SK×Se)}{t:Uk}
theorem GR(g:dY prog w es t):ElemsOf (TX prog w) es.toList:=λe he=>by obtain ⟨k,t,rfl⟩:=g.el e he;exact ⟨⟨k,Va _ _ _ _,rfl⟩,rfl⟩
theorem perm(g:dY prog w es t)(p:Tr es'.toList es.toList)(f:t'.fits es'.size=R8):dY prog w es' t':=
 ⟨λe he=>g.el e<|p.mem_iff.mp he,(p.map cW).nodup_iff.mpr g.nd,f⟩
theorem tN(g:dY prog w es t){e:SK×Se}(he:e∈es.toList)(k:SK):(TX prog w).is k e.2=R8↔cW e=k:=by obtain ⟨k',t,rfl⟩:=g.el e he;rw[PySem.KeyKind.is_eq_decide (Va prog w k' t) k,decide_eq_true_eq];exact eq_comm
end dY
theorem sX{es es':Td α}(p:Tr es'.toList es.toList):es'.size=es.size:=by simpa using p.length_eq
section
variable{es:Td (SK×Se)}{t:Uk}
theorem i6{Q:TZ->Sn->Prop}(ho:s.heap.get? a=KX (cu es ep t))(hz:es'.size<=1000)
  (h:∀h',h'.get? a=KX (cu es' (ep+1) t')->SO a s.heap h'->Q () {s with heap:=h'}):Sm (Tj prog w) A (storeSet a es' t') Q E s:=by refine wpAny_storeSet_of ho rfl (h _ ?_<|VV s.heap a _) (by rw[T6];exact Ss ‹_› (by decide));have:=U9 (Obj.putSet es' t') ho (by rw[putSet_of es' t' rfl];rfl);rw[putSet_of es' t' rfl] at this;exact this
theorem dJ{Q:(Td (SK×Se)×Sf×Uk)->Sn->Prop}(ho:s.heap.get? a=KX (cu es ep t))(g:dY prog w es t)(h:Q (es,ep,t) s):Sm (Tj prog w) A (setState a) Q E s:=
 wpAny_setState_of ho rfl g.fits h
theorem tE{Q:Td (SK×Se)->Sn->Prop}(ho:s.heap.get? a=KX (cu es ep t))(g:dY prog w es t)(h:Q es s):Sm (Tj prog w) A (setEntries a) Q E s:=
 R7 (dJ ho g<|Sg h)
theorem pK{Q:Sf->Sn->Prop}(ho:s.heap.get? a=KX (cu es ep t))(g:dY prog w es t)(h:Q ep s):Sm (Tj prog w) A (setEpoch a) Q E s:=
 R7 (dJ ho g<|Sg h)
theorem rC{Q:Sf->Sn->Prop}(ho:s.heap.get? a=KX (cu es ep t))(g:dY prog w es t)(h:Q es.size s):Sm (Tj prog w) A (aaZ a) Q E s:=
 R7 (tE ho g<|Sg h)
theorem mE{Q:Sq->Sn->Prop}(h:Q (w.params.followText "set-order") s):Sm (Tj prog w) A setsByText Q E s:=
 R7 (Vx<|Sg h)
def Full(t:Uk):Prop:=pG (t.mask+1)=R8
theorem yJ:∀n,n<512->∃k,k<7/\Vq n=8*2^k/\n<Vq n/\Vq n<=512:=by decide+kernel
theorem yr{Q:TZ->Sn->Prop}(ho:s.heap.get? a=KX (cu es ep t))(g:dY prog w es t)(hn:n<512)(hs:es.size<=n)
  (h:∀h' es' t',h'.get? a=KX (cu es' (ep+1) t')->SO a s.heap h'->Tr es'.toList es.toList->dY prog w es' t'->Full t'->n<=t'.mask->t'.dummies= #[]->Q () {s with heap:=h'}):
  Sm (Tj prog w) A (setRelay a n) Q E s:=by obtain ⟨k,k1,k2,k3,k4⟩:=yJ n hn;have hf:=Hs k k1;have e1:Vq n-1+1=8*2^k:=(Wx<|aaA k3).trans k2;refine R7<|dJ ho g ?_;refine bM (by rw[T6];exact Nat.not_lt.mpr<|Ss k4 (by decide)) ?_;obtain ⟨t',order,a1,a2,a3,a4,a5,a6⟩:=zv (by rw[e1];exact hf) t.finger (t.movedTo<|Vq n-1) t.led t.plain es<|Xy<|Sb hs k3;have hr:t.relaid (es.map λx=>x.1) n=KX (t',order):=a1;rw[hr];have sz:=sX a6;refine R7 ?_;refine bM (by simp[sz]) ?_;refine Sg ?_;refine i6 ho (Ss (SA sz)<|Ss hs<|SQ<|Sw hn (by decide)) λh' b1 b2=> ?_;exact h h' _ t' b1 b2 a6 (g.perm a6 (by rw[sz];exact a5)) (by unfold Full;rw[a2,e1];exact hf) (Ss (Xy k3)<|SA a2.symm) a4
end
section
variable{es:Td (SK×Se)}{t:Uk}
theorem o6{t:Uk}(h:t.fits n=R8):t.place.size=n:=by unfold YA at h;rw[Ta,WM] at h;exact h.1
set_option tactic.hygienic true in
theorem Ie{Q:TZ->Sn->Prop}(ho:s.heap.get? a=KX (cu es ep t))(g:dY prog w es t)(hn:es.size+n<250)
  (h:∀h' es' ep' t',h'.get? a=KX (cu es' ep' t')->SO a s.heap h'->Tr es'.toList es.toList->dY prog w es' t'->(Full t->Full t')->n<=t'.mask->(t.dummies= #[]->t'.dummies= #[])->Q () {s with heap:=h'}):
  Sm (Tj prog w) A (setRoomFor a n) Q E s:=by
 have pl:=o6 g.fits;refine R7<|dJ ho g ?_;unfold SetTable.roomFor
 split
 ·rename_i wanted hw
  split at hw
  ·obtain rfl:=R9 hw
   refine yr ho g (Si (YT (pl.symm▸hn) (by decide)) (by decide)) (Ss (SA pl.symm)<|Ss (S0 _ n)<|Zn _ (by decide)) λh' es' t' a1 a2 a3 a4 a5 a6 a7=>h h' es' _ t' a1 a2 a3 a4 (λu0=>a5) (Ss (Ss (Ub n _)<|Zn _ (by decide)) a6)<|λu0=>a7
  ·exact au hw
 ·rename_i hw
  split at hw
  ·exact(hw _ rfl).elim
  ·rename_i hc
   have e:s={s with heap:=s.heap}:=by cases s;rfl
   refine Sg ?_;rw[e];exact h s.heap es ep t ho (Uq a s.heap) .rfl g id (Nat.le_of_not_lt λz=>(by assumption:¬(t.fill+n)*5≥t.mask*3)<|Nat.mul_le_mul (Ss (SQ z)<|Ub _ _) (by decide)) id
def AI(prog:Wm)(w:Yd)(h:Tu)(a:SJ):Prop:=∃es ep t,h.get? a=KX (cu es ep t)/\dY prog w es t
theorem w4{l:R5 SJ}{Q:Sq->Sn->Prop}(hl:∀a∈l,AI prog w s.heap a)(h:Q R8 s):Sm (Tj prog w) A (setsQuiet l) Q E s:=by
 refine R7 ?_;refine Uu _ (λrest r s'=>r.1=Sd/\s'=s/\∀a∈rest,AI prog w s.heap a) _ ?_ ?_ _ _ ⟨rfl,rfl,hl⟩
 ·rintro a rest r s' ⟨hr,rfl,hv⟩
  obtain ⟨es,ep,t,ho,g⟩:=hv a<|VB ..;refine R7<|tE ho g ?_;refine R7 ?_;rw[←US];refine Uu _ (λrest r s''=>r.1=Sd/\s''=s'/\∀e∈rest,∃k t,e=((TX prog w).hash k,Xm k t)) _ ?_ ?_ _ _ ⟨rfl,rfl,g.el⟩
  ·rintro e rest' r' s'' ⟨hr',rfl,he⟩
   obtain ⟨k,t,rfl⟩:=he e<|VB ..;exact Sg ⟨rfl,rfl,λe h=>he e<|Xo _ h⟩
  ·rintro ⟨r1,r2⟩ s'' ⟨hr',rfl,_⟩
   subst hr';exact Sg ⟨rfl,rfl,λe h=>hv e<|Xo _ h⟩
 ·rintro ⟨r1,r2⟩ s' ⟨hr,rfl,_⟩
  subst hr;exact Sg h
theorem zu{Q:Td (SK×Se)->Sn->Prop}(ho:s.heap.get? a=KX (cu es ep t))(g:dY prog w es t)(hc:(w.params.followText "set-order"||t.led&&t.plain||decide (es.size<=1))=R8)
  (h:∀es',Tr es'.toList es.toList->Q es' s):Sm (Tj prog w) A (setWalk a) Q E s:=by
 refine R7<|dJ ho g ?_;refine R7<|mE ?_
 cases hb:w.params.followText "set-order" with
 |true=>
  refine R7<|Vx<|Sg<|h _<|CN _ _
 |false=>
  refine bM SR ?_;rw[hb] at hc;simp only[WH,Xe,Ta] at hc;rw[SI (by
   intro q;have q':(!t.plain&&decide (es.size>1))=true:=q;simp only[Ta] at q'
   rcases hc with hc|hc
   ·rw[hc.2] at q';exact TL q'.1 (by decide)
   ·lia)];refine R7 ?_;show Sm _ _ (if(!t.led&&decide (es.size>1))=R8 then _ else _) _ _ _;rw[SI (by
   intro q';simp only[Ta] at q'
   rcases hc with hc|hc
   ·rw[hc.1] at q';exact TL q'.1 (by decide)
   ·lia)];exact Sg<|Sg<|h es .rfl
theorem Bv{l:R5 SJ}{Q:Td (SK×Se)->Sn->Prop}(ho:s.heap.get? a=KX (cu es ep t))(g:dY prog w es t)(hl:∀a∈l,AI prog w s.heap a)
  (h:∀es',Tr es'.toList es.toList->Q es' s):Sm (Tj prog w) A (setWalkUnseen a l Sd) Q E s:=by
 refine R7<|dJ ho g ?_;refine R7<|mE ?_
 by_cases hc:(w.params.followText "set-order"||t.led&&t.plain||decide (es.size<=1))=R8
 ·rw[Sv hc]
  exact zu ho g hc λes' p=>h es' p
 ·rw[SI hc]
  refine R7<|w4 (λb hb=> ?_) ?_
  ·rcases List.mem_cons.mp hb with rfl|hb
   ·exact ⟨es,ep,t,ho,g⟩
   ·exact hl b hb
  ·
   exact R7<|Uz<|Sg<|h es .rfl
theorem vn{l:R5 SJ}{f:SJ}{ef:Td (SK×Se)}{epf:Sf}{tf:Uk}{Q:Td (SK×Se)->Sn->Prop}(ho:s.heap.get? a=KX (cu es ep t))(g:dY prog w es t)(hl:∀a∈l,AI prog w s.heap a)
  (hf:s.heap.get? f=KX (cu ef epf tf)) (gf:dY prog w ef tf) (zf:ef.size<=1000)
  (h:∀es' h' epf' tf',Tr es'.toList es.toList->h'.get? f=KX (cu ef epf' tf')->SO f s.heap h'->dY prog w ef tf'->tf'.mask=tf.mask->tf'.dummies=tf.dummies->Q es' {s with heap:=h'}):
  Sm (Tj prog w) A (setWalkUnseen a l<|KX f) Q E s:=by
 have e:s={s with heap:=s.heap}:=by cases s;rfl
 have here:∀es',Tr es'.toList es.toList->Q es' s:=λes' p=>by rw[e];exact h es' s.heap epf tf p hf (Uq f s.heap) gf rfl rfl
 refine R7<|dJ ho g ?_;refine R7<|mE ?_
 by_cases hc:(w.params.followText "set-order"||t.led&&t.plain||decide (es.size<=1))=R8
 ·rw[Sv hc]
  exact zu ho g hc λes' p=>here es' p
 ·rw[SI hc]
  refine R7<|w4 (λb hb=> ?_) ?_
  ·rcases List.mem_cons.mp hb with rfl|hb
   ·exact ⟨es,ep,t,ho,g⟩
   ·exact hl b hb
  ·
   refine R7<|Uz ?_;refine R7<|dJ hf gf ?_;dsimp only
   split
   ·refine R7<|i6 hf zf λh' b1 b2=>Sg<|h es h' _ _ .rfl b1 b2 ⟨gf.el,gf.nd,?_⟩ rfl rfl
    exact gf.fits
   ·exact Sg<|here es .rfl
theorem uJ{k:SK}{Q:Sh Sf->Sn->Prop}(ho:s.heap.get? a=KX (cu es ep t))(g:dY prog w es t)(hz:es.size<1000)
  (h0:k∉es.toList.map cW->Q Sd s) (h1:∀i,(es.toList.map cW)[i]? =KX k->Q (KX i) s):Sm (Tj prog w) A (setFind a (.int k tk)<|(TX prog w).hash k) Q E s:=by
 have hb:es.size<scanBound:=by rw[show Z2=4096 from rfl];exact Si ‹_› (by decide)
 refine R7<|dJ ho g ?_;dsimp only;rw[byScan_of rfl hb g.GR];refine R7<|Uz ?_;refine R7<|wpAny_setScan_of (Va _ _ _ _) ho rfl g.fits g.GR ?_
 cases hr:abq (λe=>(TX prog w).is k e.2) es.toList with
 |none=>
  refine Sg<|h0 λhm=> ?_;obtain ⟨e,he,q⟩:=List.mem_map.mp hm;have:=List.findIdx?_eq_none_iff.mp hr e he;rw[(g.tN he k).mpr q] at this;exact nomatch this
 |some j=>
  obtain ⟨hj,hpj,_⟩:=List.findIdx?_eq_some_iff_getElem.mp hr;refine Sg<|h1 (0+j) ?_;rw[SX,S1,S4 hj];exact R6 KX<|(g.tN (Yi hj) k).mp hpj
end
section
variable{es:Td (SK×Se)}{t:Uk}
noncomputable def qH(l:R5 SK)(k:SK):R5 Int:=if k∈l then l else l++[k]
theorem Gi{l:R5 SK}{k x:SK}:x∈qH l k↔x∈l\/x=k:=by
 unfold qH
 split
 ·exact ⟨.inl,λh=>h.elim id λe=>by subst e;assumption⟩
 ·simp
theorem Jc(g:dY prog w es t){k:SK}(hk:k∉es.toList.map cW)(p:Tr es'.toList (es.toList++[((TX prog w).hash k,.int k tk)]))(f:t'.fits es'.size=R8):dY prog w es' t':=by
 refine ⟨λe he=> ?_,?_,f⟩
 ·rcases List.mem_append.mp (p.mem_iff.mp he) with he|he
  ·exact g.el e he
  ·rw[Ud] at he;exact ⟨k,tk,he⟩
 ·rw[(p.map cW).nodup_iff,S3]
  rw[aas];refine ⟨g.nd,by simp,λx hx y hy=> ?_⟩;simp only[T7,Zo,Ud] at hy;subst hy;exact λe=>hk<|e▸hx
theorem LP{k:SK}{Q:Sq->Sn->Prop}(ho:s.heap.get? a=KX (cu es ep t))(g:dY prog w es t)(hz:es.size<999)
  (h:∀b h' es' ep' t',h'.get? a=KX (cu es' ep' t')->SO a s.heap h'->dY prog w es' t'->Tr (es'.toList.map cW) (qH (es.toList.map cW) k)->Q b {s with heap:=h'}):
  Sm (Tj prog w) A (setAddHashed a (.int k tk)<|(TX prog w).hash k) Q E s:=by
 have hb:es.size<scanBound:=by rw[show Z2=4096 from rfl];exact Si ‹_› (by decide)
 refine SY<|R7<|dJ ho g ?_;dsimp only;rw[byScan_of rfl hb g.GR];refine R7 ?_;refine R7<|Uz ?_;refine R7<|wpAny_setScan_of (Va _ _ _ _) ho rfl g.fits g.GR ?_
 cases hr:abq (λe=>(TX prog w).is k e.2) es.toList with
 |some j=>
  obtain ⟨hj,hpj,_⟩:=List.findIdx?_eq_some_iff_getElem.mp hr;have hm:=List.mem_map.mpr ⟨_,Yi hj,(g.tN (Yi hj) k).mp hpj⟩;refine Sg<|Sg ?_;have e:s={s with heap:=s.heap}:=by cases s;rfl
  rw[e];exact h _ s.heap es ep t ho (Uq a s.heap) g (by unfold qH;rw[Sv hm])
 |none=>
  have hm:k∉es.toList.map cW:=by intro hm;obtain ⟨e,he,q⟩:=List.mem_map.mp hm;have:=List.findIdx?_eq_none_iff.mp hr e he;rw[(g.tN he k).mpr q] at this;exact nomatch this
  have hgw:∀(b:Sq) {ai:Sn} {Q':TZ->Sn->Prop},Q' () ai->Sm (Tj prog w) A (match b with|true=>rule "set.scan.the-table-gave-way"|false=>pure ()) Q' E ai:=
   λb ai Q' hq=>by cases b<;>first|exact Sg hq|exact Uz hq
  have hperm:=layNew_perm t es ((TX prog w).hash k)<|.int k tk;have hfits:=layNew_fits t es ((TX prog w).hash k)<|.int k tk;generalize hL:layNew t es ((TX prog w).hash k) (.int k tk)=L at hperm hfits⊢;obtain ⟨es1,t1,wasDummy,gave⟩:=L;rw[WA] at hperm;have sz1:=by simpa using hperm.length_eq
  have kp:Tr (es1.toList.map cW) (qH (es.toList.map cW) k):=by
   unfold qH;rw[SI hm];have:=hperm.map cW
   rwa [S3] at this
  refine R7<|hgw _ ?_;have tail:∀(t2:Uk),t2.fits es1.size=R8->Sm (Tj prog w) A (do
    storeSet a es1 t2
    if(!wasDummy&&t2.tooFull)=R8 then do
      (match (relayAll t2 es1<|U8 es1.size).2.2 with|true=>rule "set.scan.the-table-gave-way"|false=>pure ())
      storeSet a (relayAll t2 es1<|U8 es1.size).1 (relayAll t2 es1<|U8 es1.size).2.1
      pure (KX R8)
     else pure (KX R8)) (λr s'=>r=KX R8/\Q R8 s') E s:=by
   intro t2 f2;have g1:=Jc g hm hperm f2;refine R7<|i6 ho (by lia) λh1 a1 b1=> ?_
   split
   ·have hp:=relayAll_perm t2 es1<|U8 es1.size
    have hfr:=relayAll_fits t2 es1<|U8 es1.size;have sz2:=sX hp;refine R7<|hgw _ ?_;refine R7<|i6 a1 (by rw[sz2];lia) λh2 a2 b2=> ?_;exact Sg ⟨rfl,h _ h2 _ _ _ a2 (b1.trans b2) (g1.perm hp hfr)<|(hp.map cW).trans kp⟩
   ·exact Sg ⟨rfl,h _ h1 _ _ _ a1 b1 g1 kp⟩
  split
  ·refine R7 ?_
   rw[hashByValue_scannable 8 rfl];refine Sg ?_;refine TS (tail _ ?_) (λr s' hq=>by obtain ⟨rfl,hq⟩:=hq;exact Sg hq) λu0 u1 e=>e
   split
   ·exact hfits
   ·exact SetTable.fits_plain_off hfits
  ·refine R7<|Sg ?_
   exact TS (tail _ hfits) (λr s' hq=>by obtain ⟨rfl,hq⟩:=hq;exact Sg hq) λu0 u1 e=>e
theorem p7(xs:Td α)(p:Sf):(Ul xs p).toList=xs.toList.take p++xs.toList.drop (p+1):=by simp[Ul,VL]
theorem D9{a b i:Sf}(h:a=min i b+(b-(i+1)))(lt:i<b):a=b-1:=
 h.trans ((R6 (·+(b-(i+1)))<|U6<|SQ lt).trans ((R6 (i+·)<|(abn b i 1).trans<|Nat.sub_right_comm b i 1).trans<|UJ<|Xy lt))
theorem Cf{t:Uk}{i:Sf}(h:t.fits n=R8)(hi:i<n):(t.drop i).fits (n-1)=true:=by
 have pl:=o6 h;unfold YA at h;have hf:t.place.size+t.dummies.size<=t.mask:=Sa (Bool.and_eq_true_iff.mp h).2;have hp:i<t.place.size:=VD hi pl.symm;unfold SetTable.drop;rw[Array.getElem?_eq_getElem hp];have e1:(Ul t.place i).size=n-1:=by have:=R6 Xp<|p7 t.place i;simp only[TG,Sy,Yh,WS] at this;exact(D9 this hp).trans (R6 (·-1) pl)
 have e2:(SetTable.insertAt t.dummies (SetTable.below t.dummies t.place[i]) t.place[i]).size=t.dummies.size+1:=(SetTable.insertAt_perm t.dummies _ _).length_eq.trans<|Array.size_push _;exact Bool.and_eq_true_iff.mpr ⟨beq_iff_eq.mpr e1,Sz (Ss (SA (show(Ul t.place i).size+_=_ from(R6 (·+_) e1).trans ((R6 (n-1+·)<|e2.trans<|VT _ 1).trans ((Uh (n-1) 1 _).symm.trans (R6 (·+t.dummies.size)<|Wx<|aaA hi)))))<|pl▸hf)⟩
theorem DN{l:R5 SK}{k:SK}(nd:l.Nodup){i:Sf}(h:l[i]? =KX k):Tr (l.take i++l.drop (i+1)) (l.erase k):=by
 obtain ⟨hi,e⟩:=List.getElem?_eq_some_iff.mp h;have e1:l=l.take i++k::l.drop (i+1):=by rw[←e,Zp,Ut]
 have p:=(List.Perm.of_eq e1).trans List.perm_middle;have:=p.erase k
 simpa using this.symm
theorem Az{k:SK}{Q:Sq->Sn->Prop}(ho:s.heap.get? a=KX (cu es ep t))(g:dY prog w es t)(hz:es.size<999)
  (h:∀b h' es' ep' t',h'.get? a=KX (cu es' ep' t')->SO a s.heap h'->dY prog w es' t'->Tr (es'.toList.map cW) ((es.toList.map cW).erase k)->Q b {s with heap:=h'}):
  Sm (Tj prog w) A (setDiscardHashed a (.int k tk)<|(TX prog w).hash k) Q E s:=by
 refine R7<|uJ ho g (Si ‹_› (by decide)) (λhm=> ?_) λi hi=> ?_
 ·have e:s={s with heap:=s.heap}:=by cases s;rfl
  refine Sg ?_;rw[e];exact h _ s.heap es ep t ho (Uq a s.heap) g (by rw[List.erase_of_not_mem hm])
 ·dsimp only
  have lt:=by
   have:=(List.getElem?_eq_some_iff.mp hi).1
   simpa using this
  have et:=p7 es i;have sz:(Ul es i).size=es.size-1:=by have:=R6 Xp et;simp only[TG,Sy,Yh,WS] at this;exact D9 this lt
  refine R7<|dJ ho g ?_;have sub:List.Sublist (Ul es i).toList es.toList:=by
   rw[et]
   conv=>rhs;rw[←Ut i es.toList]
   refine List.Sublist.append (List.Sublist.refl _) ?_;rw[←List.drop_drop];exact List.drop_sublist _ _
  have g':dY prog w (Ul es i) (t.drop i):=⟨λe he=>g.el e<|sub.subset he,(sub.map cW).nodup g.nd,by rw[sz];exact Cf g.fits lt⟩;have kp:Tr ((Ul es i).toList.map cW) ((es.toList.map cW).erase k):=by rw[et,S3,abp,List.map_drop];exact DN g.nd hi
  refine R7<|i6 ho (Ss (SA sz)<|Ss (XY _ _)<|SQ<|Sw hz (by decide)) λh' b1 b2=> ?_;exact R7<|wpAny_point<|Sg<|h _ h' _ _ _ b1 b2 g' kp
end
inductive cS(prog:Wm)(w:Yd)(h:Tu)(a:SJ)(K:SK->Prop)(n:Sf):Prop
 |mk (es:Td (SK×Se)) (ep:Sf) (t:Uk):h.get? a=KX (cu es ep t)->dY prog w es t->(∀k,k∈es.toList.map cW↔K k)->es.size<=n->cS prog w h a K n
section
variable{o:SJ}{es eo:Td (SK×Se)}{epo:Sf}{t to:Uk}
theorem cS.mono{h:Tu}{m:Sf}(x:cS prog w h a K n)(le:n<=m):cS prog w h a K m:=
 cS.casesOn x λes ep t e g k z=>⟨es,ep,t,e,g,k,Ss z le⟩
theorem cS.iff{h:Tu}(x:cS prog w h a K n)(e:∀k,K k↔K' k):cS prog w h a K' n:=
 cS.casesOn x λes ep t e' g k z=>⟨es,ep,t,e',g,λi=>(k i).trans<|e i,z⟩
theorem zi(l:R5 SK)(k:SK):(qH l k).length<=l.length+1:=by unfold qH;split<;>simp
theorem ur{k:SK}{Q:Sq->Sn->Prop}(x:cS prog w s.heap a K n)(hz:n<999)
  (h:∀b h',SO a s.heap h'->cS prog w h' a (λi=>K i\/i=k) (n+1)->Q b {s with heap:=h'}):
  Sm (Tj prog w) A (setAddHashed a (.int k tk)<|(TX prog w).hash k) Q E s:=by
 obtain ⟨es,ep,t,ho,g,kk,z⟩:=x;refine LP ho g (Sb ‹_› ‹_›) λb h' es' ep' t' a1 a2 a3 a4=>h b h' a2 ⟨es',ep',t',a1,a3,λi=> ?_,?_⟩
 ·rw[a4.mem_iff,Gi,kk]
 ·have:=a4.length_eq
  have l:=zi (es.toList.map cW) k;simp only[Sr,TG] at this l;exact Ss (SA this)<|Ss l<|S6 z 1
theorem zd{k:SK}{Q:Sq->Sn->Prop}(x:cS prog w s.heap a K n)(hz:n<999)
  (h:∀b h',SO a s.heap h'->cS prog w h' a (λi=>K i/\i≠k) n->Q b {s with heap:=h'}):
  Sm (Tj prog w) A (setDiscardHashed a (.int k tk)<|(TX prog w).hash k) Q E s:=by
 obtain ⟨es,ep,t,ho,g,kk,z⟩:=x;refine Az ho g (Sb ‹_› ‹_›) λb h' es' ep' t' a1 a2 a3 a4=>h b h' a2 ⟨es',ep',t',a1,a3,λi=> ?_,?_⟩
 ·rw[a4.mem_iff,g.nd.mem_erase_iff,kk,and_comm]
 ·have:=a4.length_eq
  have l:=List.length_erase_le (a:=k) (l:=es.toList.map cW);simp only[Sr,TG] at this l;exact Ss (SA this)<|Ss l z
theorem zh{es:Td α}(h:es.size=0):es= #[]:=Array.eq_empty_of_size_eq_zero h
theorem xF{each:Sem TZ}{Q:TZ->Sn->Prop}(ne:a≠o)(ho:s.heap.get? a=KX (cu es ep t))(g:dY prog w es t)(hf:Full t)(hd:t.dummies= #[])(z1:es.size<100)
  (hb:s.heap.get? o=KX (cu eo epo to)) (gb:dY prog w eo to) (z2:eo.size<100)
  (he:∀(s':Sn) (Q':TZ->Sn->Prop),s'.heap.get? o=KX (cu eo epo to)->Q' () s'->Sm (Tj prog w) A each Q' E s')
  (h:∀h' es' ep' t',h'.get? a=KX (cu es' ep' t')->SO a s.heap h'->dY prog w es' t'->(∀k,k∈es'.toList.map cW↔k∈es.toList.map cW\/k∈eo.toList.map cW)->es'.size<=es.size+eo.size->
   (es= #[]->Full t'/\t'.dummies= #[])->Q () {s with heap:=h'}):
  Sm (Tj prog w) A (setMerge a o each) Q E s:=by
 have e0:s={s with heap:=s.heap}:=by cases s;rfl
 refine bM (by rw[WM];exact ne) ?_;refine R7<|dJ hb gb ?_;dsimp only
 by_cases h0:eo.isEmpty=R8
 ·rw[Sv h0]
  have h0':=by simpa using h0
  refine Sg ?_;rw[e0];exact h s.heap es ep t ho (Uq a s.heap) g (λk=>by simp[h0']) (S0 _ _) λu0=>⟨hf,hd⟩
 refine bM h0 ?_;refine R7<|Ie ho g (Sw (VS z1 z2) (by decide)) λh1 es1 ep1 t1 a1 b1 p1 g1 f1 m1 d1=> ?_;have s1:=sX p1;have hb1:=(b1.2 o ne.symm).trans hb;have pl1:=o6 g1.fits;have fill1:t1.fill=es.size:=by unfold aam;rw[pl1,d1 hd,s1];rfl
 refine R7<|dJ a1 g1 ?_;unfold SetTable.road
 by_cases hfill:(t1.fill !=0)=R8
 ·rw[Sv hfill]
  refine R7<|vn hb1 gb (λb hb'=> ?_) a1 g1 (Ss (SA s1)<|SQ<|Sw z1 (by decide)) λeo' h2 ep2 t2 p2 a2 b2 g2 O u1=> ?_
  ·rw[Ud] at hb';subst hb';exact ⟨es1,ep1,t1,a1,g1⟩
  refine R7 ?_;rw[←US];refine Uu _ (λrest O s'=>∃done,eo'.toList=done++rest/\∃h3,s'={s with heap:=h3}/\SO a s.heap h3/\cS prog w h3 a (λk=>k∈es.toList.map cW\/k∈done.map cW) (es.size+done.length)) _ ?_ ?_ _ _ ⟨[],rfl,h2,rfl,b1.trans b2,es1,ep2,t2,a2,g2,λk=>by rw[(p1.map cW).mem_iff];simp,by simp[s1]⟩
  ·rintro e rest _ s' ⟨done,q,h3,rfl,b3,x3⟩
   obtain ⟨k,tk,rfl⟩:=gb.el e<|p2.mem_iff.mp (by rw[q];exact(V1 _<|.head _));have len:done.length<eo.size:=by exact VD (VD (VG<|VR rest.length) ((R6 Xp q).trans Sy).symm) p2.length_eq
   refine R7<|SY<|ur x3 (Sw (VS z1<|Sw len z2) (by decide)) λu0 h4 b4 x4=> ?_;have hb4:=((b3.trans b4).2 o ne.symm).trans hb;refine R7<|he {s with heap:=h4} _ hb4 ?_;refine R7<|dJ hb4 gb ?_;refine bM (by simp) ?_;refine Sg ⟨done++[((TX prog w).hash k,Xm k tk)],by rw[q];simp,h4,rfl,b3.trans b4,?_⟩;refine(x4.iff λi=> ?_).mono (by simp;exact SN _);rw[S3,U3,or_assoc];rw[show [((TX prog w).hash k,Xm k tk)].map cW=[k] from rfl,Ud]
  ·rintro _ s' ⟨done,q,h3,rfl,b3,es3,ep3,t3,a3,g3,k3,z3⟩
   rw[SP] at q;refine Sg<|h h3 es3 ep3 t3 a3 b3 g3 (λk=> ?_) ?_ λqn=> ?_
   ·rw[k3 k,←q]
    rw[(p2.map cW).mem_iff]
   ·have:=p2.length_eq
    rw[q] at this;exact Ss ‹_› (SA (R6 (es.size+·) this))
   ·subst qn
    simp[fill1] at hfill
 ·rw[SI hfill]
  have n0:es.size=0:=by simpa [fill1] using hfill
  have en:=zh n0;have km:∀k,k∈es.toList.map cW\/k∈eo.toList.map cW↔k∈eo.toList.map cW:=λk=>by simp[en]
  by_cases hr:(t1.mask==to.mask&&to.dummies.isEmpty)=R8
  ·rw[Sv hr]
   rw[Ta,WM] at hr;have hde:=by simpa using hr.2
   refine i6 a1 (SQ<|Si ‹_› (by decide)) λh2 a2 b2=> ?_;refine h h2 eo _ _ a2 (b1.trans b2) ⟨gb.el,gb.nd,gb.fits⟩ (λk=>(km k).symm) (Ub _ _) λu0=>⟨?_,hde⟩;have:=f1 hf;unfold Full at this⊢;rw[hr.1] at this;exact this
  ·rw[SI hr]
   obtain ⟨t2,order,c1,c2,c3,c4,c5,c6⟩:=zv (f1 hf) t1.finger t1.moves (t1.led&&to.led) (t1.plain&&to.plain) eo m1;rw[c1];have sz:=sX c6;refine R7 ?_;refine bM (by simp[sz]) ?_;refine Sg ?_;refine i6 a1 (Ss (SA sz)<|SQ<|Sw z2 (by decide)) λh2 a2 b2=> ?_;refine h h2 _ _ t2 a2 (b1.trans b2) (gb.perm c6 (by rw[sz];exact c5)) (λk=>by rw[(c6.map cW).mem_iff];exact(km k).symm) (Ss (SA sz)<|Ub _ _) λu0=>⟨?_,c4⟩;have:=f1 hf;unfold Full at this⊢;rw[c2];exact this
end
section
variable{b:SJ}
theorem cS.typeIs(x:cS prog w s.heap a K n):s.TypeIs (.ref a) "frozenset":=cS.casesOn x λes ep t e g k z=>⟨_,e,rfl⟩
theorem mh{Q:Sq->Sn->Prop}(hT:s.TypeIs (.ref a) "frozenset")(h:Q R8 s):Sm (Tj prog w) A (aa1<|.ref a) Q E s:=by refine R7<|UW hT FF.Am ?_;exact UW hT FF.sub_self h
theorem Aq(hT:s.TypeIs (.ref a) "frozenset")(h:Q (.type "frozenset") s):Sm (Tj prog w) A (aa4 a) Q E s:=by refine R7<|UW hT FF.Am ?_;exact Sg h
noncomputable abbrev freshT(led:Sq):SetTable:=.fresh 0 0 led
theorem DV(h:∀led,Q (.ref s.heap.objs.size) {s with heap:=s.heap.push (cu #[] 0<|freshT led)}):Sm (Tj prog w) A (newSet<|.type "frozenset") Q E s:=by refine R7<|mE ?_;exact R7<|aaH<|Sg<|h _
theorem oM(led:Sq):dY prog w #[] (freshT led):=⟨λe he=>by simp at he,Vg,by rfl⟩
theorem Bn(led:Sq):Full (freshT led):=Hs 0 (by decide)
noncomputable def Keeps(h h':Tu):Prop:=∀b o,h.get? b=KX o->h'.get? b=KX o
theorem Keeps.tZ{h h'':Tu}(x:Keeps h h')(f:h.get? a=Sd)(y:SO a h' h''):Keeps h h'':=λb o e=>(y.2 b (by rintro rfl;rw[f] at e;cases e)).trans<|x b o e
theorem cS.keeps{h:Tu}(x:cS prog w h a K n)(k:Keeps h h'):cS prog w h' a K n:=cS.casesOn x λes ep t e g i z=>⟨es,ep,t,k _ _ e,g,i,z⟩
def oT(prog:Wm)(w:Yd)(h h':Tu)(r:SJ)(K:SK->Prop)(n:Sf):Prop:=h.get? r=Sd/\Keeps h h'/\cS prog w h' r K n
theorem z9(x:cS prog w s.heap a K n)(hn:n<100)
  (h:∀h' r es ep t,s.heap.get? r=Sd->Keeps s.heap h'->h'.get? r=KX (cu es ep t)->dY prog w es t->(∀k,k∈es.toList.map cW↔K k)->es.size<=n->Full t->t.dummies= #[]->Q (.ref r) {s with heap:=h'}):
  Sm (Tj prog w) A (aa3 a) Q E s:=by
 refine R7<|Aq x.typeIs ?_;refine R7<|DV λled=> ?_;refine R7<|Sg ?_;obtain ⟨es,ep,t,ho,g,kk,z⟩:=x;have kp:Keeps s.heap (s.heap.push<|cu #[] 0<|freshT led):=bZ;have fr:s.heap.get? s.heap.objs.size=none:=bz<|SN _;have ne:s.heap.objs.size≠a:=λe=>by rw[←e,fr] at ho;exact au ho
 refine R7<|xF ne (SD _ rfl) (oM led) (Bn led) rfl (by decide) (kp _ _ ho) g (Sb ‹_› ‹_›) (λu0 u1 u2 q=>Sg q) λh' es' ep' t' a1 a2 a3 a4 a5 a6=> ?_;exact Sg<|h h' _ es' ep' t' fr (kp.tZ fr a2) a1 a3 (λk=>by rw[a4,←kk];simp) (by simp at a5;exact Ss ‹_› ‹_›) (a6 rfl).1 (a6 rfl).2
theorem mr{id:WO}{es:Td (SK×Se)}{t:Uk}{Q:TZ->Sn->Prop}(ho:s.heap.get? a=KX (cu es ep t))(g:dY prog w es t)(h:Q () s):Sm (Tj prog w) A (Xi id a ep) Q E s:=by refine R7<|pK ho g ?_;refine bM (by simp) ?_;exact Sg h
theorem I1{Q:TZ->Sn->Prop}(x:cS prog w s.heap a K n)(hn:n<100)
  (h:∀h',SO a s.heap h'->cS prog w h' a K n->Q () {s with heap:=h'}):Sm (Tj prog w) A (setTidy a) Q E s:=by
 obtain ⟨es,ep,t,ho,g,kk,z⟩:=x;refine R7<|dJ ho g ?_;dsimp only
 split
 ·have e:U8 es.size=es.size*4:=by unfold U8;rw[SI (Nat.not_lt.mpr<|Ss (SQ<|Sb z hn) (by decide))]
  rw[e];refine yr ho g (Si (YT (Sb z hn) (by decide)) (by decide)) (Ub _ _) λh' es' t' a1 a2 a3 a4 O u1 u2=>h h' a2 ⟨es',_,t',a1,a4,λk=>by rw[(a3.map cW).mem_iff,kk],by rw[sX a3];exact z⟩
 ·have e:s={s with heap:=s.heap}:=by cases s;rfl
  refine Sg ?_;rw[e];exact h s.heap (Uq a s.heap) ⟨es,ep,t,ho,g,kk,z⟩
theorem wa{id:WO}{m:Sf}{Q:TZ->Sn->Prop}(ne:a≠b)(x:cS prog w s.heap a K n)(hn:n<100)(y:cS prog w s.heap b K' m)(hm:m<100)
  (small:∀es ep t,s.heap.get? b=KX (cu es ep t)->∀es' ep' t',s.heap.get? a=KX (cu es' ep' t')->es.size/8<=es'.size)
  (h:∀h',SO a s.heap h'->cS prog w h' a (λk=>K k/\¬K' k) n->Q () {s with heap:=h'}):Sm (Tj prog w) A (WE id a<|.ref b) Q E s:=by
 have xx:=x;obtain ⟨ea,epa,ta,ha,ga,ka,za⟩:=x;have yT:=y.typeIs;obtain ⟨eb,epb,tb,hb,gb,kb,zb⟩:=y;unfold WE;rw[SI (by
  intro q;rw[WM] at q
  injection q with q
  exact ne q.symm)];refine R7<|mh yT ?_;refine R7<|Sg ?_;refine R7<|rC hb gb ?_;refine R7<|rC ha ga ?_;refine bM (Nat.not_lt.mpr<|small _ _ _ hb _ _ _ ha) ?_;refine R7<|pK hb gb ?_;refine R7<|SY ?_;refine R7<|Bv hb gb (λc hc=> ?_) λeb' p2=> ?_
 ·rw[Ud] at hc;subst hc;exact ⟨ea,epa,ta,ha,ga⟩
 refine R7 ?_;rw[←US];refine Uu _ (λrest O s'=>∃done,eb'.toList=done++rest/\∃h3,s'={s with heap:=h3}/\SO a s.heap h3/\cS prog w h3 a (λk=>K k/\k∉done.map cW) n) _ ?_ ?_ _ _ ⟨[],rfl,s.heap,by cases s;rfl,Uq a s.heap,xx.iff λk=>by simp⟩
 ·rintro e rest _ s' ⟨done,q,h3,rfl,b3,x3⟩
  obtain ⟨k,tk,rfl⟩:=gb.el e<|p2.mem_iff.mp (by rw[q];exact(V1 _<|.head _));refine R7<|SY<|zd x3 (Si ‹_› (by decide)) λu0 h4 b4 x4=> ?_;have hb4:=((b3.trans b4).2 b ne.symm).trans hb;refine R7<|mr hb4 gb ?_;refine Sg ⟨done++[((TX prog w).hash k,Xm k tk)],by rw[q];simp,h4,rfl,b3.trans b4,x4.iff λi=> ?_⟩;rw[S3,U3,not_or,and_assoc];rw[show [((TX prog w).hash k,Xm k tk)].map cW=[k] from rfl,Ud]
 ·rintro _ s' ⟨done,q,h3,rfl,b3,x3⟩
  rw[SP] at q;refine Sg ?_;refine I1 x3 hn λh4 b4 x4=>h h4 (b3.trans b4)<|x4.iff λk=> ?_;rw[←q,(p2.map cW).mem_iff,kb]
end
section
variable{b:SJ}
theorem Jb{id:WO}{m:Sf}(x:cS prog w s.heap a K n)(hn:n<100)(y:cS prog w s.heap b K' m)(hm:m<100)
  (h:∀h' r,oT prog w s.heap h' r (λk=>K k/\¬K' k) n->Q (.ref r) {s with heap:=h'}):Sm (Tj prog w) A (aa2 id a<|.ref b) Q E s:=by
 have xx:=x;have yy:=y;obtain ⟨ea,epa,ta,ha,ga,ka,za⟩:=x;obtain ⟨eb,epb,tb,hb,gb,kb,zb⟩:=y;refine R7<|mh yy.typeIs ?_;refine R7<|Sg ?_;refine R7<|rC hb gb ?_;refine R7<|rC ha ga ?_
 by_cases hc:ea.size/4>eb.size
 ·rw[Sv hc]
  refine R7<|Uz ?_;refine R7<|z9 xx hn λh1 r er epr tr f1 k1 hr gr kr zr O u1=> ?_;refine R7<|Sg ?_;have ne:r≠b:=λe=>by rw[←e,f1] at hb;exact au hb
  have hb1:=k1 _ _ hb;have szr:=by
   have p:=(List.perm_ext_iff_of_nodup gr.nd ga.nd).mpr λk=>by rw[kr,ka]
   simpa using p.length_eq
  refine R7<|SY<|wa ne ⟨er,epr,tr,hr,gr,kr,zr⟩ hn (yy.keeps k1) hm (λes ep t e es' ep' t' e'=> ?_) λh2 b2 x2=> ?_
  ·have q:=R9<|e.symm.trans hb1
   injection q with _ _ q _
   injection q with q _ _
   subst q;have q:=R9<|e'.symm.trans hr
   injection q with _ _ q _
   injection q with q _ _
   subst q;exact Ss (abd _ _)<|Ss (SQ ‹_›)<|Ss (abd _ _)<|SA szr.symm
  ·exact Sg<|h h2 r ⟨f1,k1.tZ f1 b2,x2⟩
 ·rw[SI hc]
  refine R7<|Aq xx.typeIs ?_;refine R7<|DV λled=> ?_;refine R7<|Sg ?_;have kp:Keeps s.heap (s.heap.push<|cu #[] 0<|freshT led):=bZ;have fr:s.heap.get? s.heap.objs.size=none:=bz<|SN _;refine R7<|pK (kp _ _ ha) ga ?_;refine R7<|SY ?_;refine R7<|vn (kp _ _ ha) ga (λc hc=> ?_) (SD _ rfl) (oM led) (by decide) λea' h2 ep2 t2 p2 a2 b2 g2 O u1=> ?_
  ·rcases List.mem_cons.mp hc with rfl|hc
   ·exact ⟨eb,epb,tb,kp _ _ hb,gb⟩
   ·rw[Ud] at hc;subst hc
    exact ⟨#[],0,freshT led,SD _ rfl,oM led⟩
  refine R7 ?_;rw[←US];refine Uu _ (λrest O s'=>∃done,ea'.toList=done++rest/\∃h3,s'={s with heap:=h3}/\Keeps s.heap h3/\cS prog w h3 s.heap.objs.size (λk=>k∈done.map cW/\¬K' k) done.length) _ ?_ ?_ _ _ ⟨[],rfl,h2,rfl,kp.tZ fr b2,#[],ep2,t2,a2,g2,λk=>by simp,by simp⟩
  ·rintro e rest _ s' ⟨done,q,h3,rfl,b3,x3⟩
   obtain ⟨k,tk,rfl⟩:=ga.el e<|p2.mem_iff.mp (by rw[q];exact(V1 _<|.head _));have len:done.length<ea.size:=by exact VD (VD (VG<|VR rest.length) ((R6 Xp q).trans Sy).symm) p2.length_eq
   have fin:∀h4,Keeps s.heap h4->cS prog w h4 s.heap.objs.size (λi=>i∈(done++[((TX prog w).hash k,Xm k tk)]).map cW/\¬K' i) (done++[((TX prog w).hash k,Xm k tk)]).length->
     ∀(R:ForInStep PUnit->Sn->Prop),(∀s',(∃done,ea'.toList=done++rest/\∃h3,s'={s with heap:=h3}/\Keeps s.heap h3/\cS prog w h3 s.heap.objs.size (λk=>k∈done.map cW/\¬K' k) done.length)->R (.yield PUnit.unit) s')->
     Sm (Tj prog w) A (do Xi id a epa;pure (UQ PUnit.unit)) R E {s with heap:=h4}:=by intro h4 k4 x4 R hR;refine R7<|mr (k4 _ _ ha) ga ?_;exact Sg<|hR _ ⟨done++[((TX prog w).hash k,Xm k tk)],by rw[q];simp,h4,rfl,k4,x4⟩
   refine R7<|SY ?_;refine R7<|uJ (b3 _ _ hb) gb (Sb ‹_› (Si ‹_› (by decide))) (λhn'=> ?_) λi hi=> ?_
   ·simp only[pure_bind]
    refine R7<|ur x3 (Sw len<|Sb za<|Sw hn (by decide)) λu0 h4 b4 x4=>Sg<|fin h4 (b3.tZ fr b4) ?_ _ λu0 q=>q;refine(x4.iff λi=> ?_).mono (by simp);rw[S3,U3];rw[kb] at hn';constructor
    ·rintro(⟨p,q⟩|rfl)
     ·exact ⟨.inl p,q⟩
     ·exact ⟨.inr<|List.mem_singleton.mpr rfl,hn'⟩
    ·rintro ⟨p|p,q⟩
     ·exact .inl ⟨p,q⟩
     ·exact .inr<|List.mem_singleton.mp p
   ·have hi':=(kb k).mp<|SM hi
    refine Sg<|fin h3 b3 ((x3.iff λi=> ?_).mono (by simp)) _ λu0 q=>q;rw[S3,U3];constructor
    ·rintro ⟨p,q⟩
     exact ⟨.inl p,q⟩
    ·rintro ⟨p|p,nk⟩
     ·exact ⟨p,nk⟩
     ·have:=List.mem_singleton.mp p
      subst this;exact TL hi' nk
  ·rintro _ s' ⟨done,q,h3,rfl,k3,x3⟩
   rw[SP] at q;refine Sg<|Sg<|h h3 _ ⟨fr,k3,(x3.iff λk=> ?_).mono ?_⟩
   ·rw[←q,(p2.map cW).mem_iff,ka]
   ·have:=p2.length_eq
    rw[q] at this;exact Ss (SA this) za
theorem MB{m:Sf}(x:cS prog w s.heap a K n)(hn:n<100)(y:cS prog w s.heap b K' m)(hm:m<100)
  (h:∀h' r,oT prog w s.heap h' r (λk=>K k/\¬K' k) n->Q (.ref r) {s with heap:=h'}):Sm (Tj prog w) A (Vf .Sub (.ref a)<|.ref b) Q E s:=by refine aa7 x.typeIs y.typeIs FF.Ec FF.xS<|Uw FF.xS x.typeIs FF.entry_sub ?_<|FF.Gq _ _;refine R7<|Sg ?_;refine R7 ?_;refine R7<|mh x.typeIs<|mh y.typeIs ?_;refine R7<|Sg ?_;refine R7<|Jb x hn y hm λh' r q=> ?_;exact Sg ⟨_,rfl,(λe=>nomatch e),h h' r q⟩
theorem Nd{m:Sf}(x:cS prog w s.heap a K n)(hn:n<100)(y:cS prog w s.heap b K' m)(hm:m<100)
  (h:∀h' r,oT prog w s.heap h' r (λk=>K k\/K' k) (n+m)->Q (.ref r) {s with heap:=h'}):Sm (Tj prog w) A (Vf .BitOr (.ref a)<|.ref b) Q E s:=by
 refine aa7 x.typeIs y.typeIs FF.EX FF.zt<|Uw FF.zt x.typeIs FF.Ez ?_<|FF.It _ _;refine R7<|Sg ?_;refine R7 ?_;refine R7<|mh x.typeIs<|mh y.typeIs ?_;refine R7<|Sg ?_;refine R7 ?_;refine R7<|z9 x hn λh1 r er epr tr f1 k1 hr gr kr zr fr dr=> ?_;have y1:=y.keeps k1
 by_cases e:a=b
 ·subst e
  refine bM (by simp) ?_;have e2:∀k,K k↔K' k:=λk=>by
   obtain ⟨e1,_,_,q1,_,k1,_⟩:=x;obtain ⟨e2,_,_,q2,_,k2,_⟩:=y;have q:=R9<|q1.symm.trans q2
   injection q with _ _ q _
   injection q with q _ _
   subst q;rw[←k1,k2]
  refine Sg ?_;exact Sg ⟨_,rfl,(λe=>nomatch e),h h1 r ⟨f1,k1,er,epr,tr,hr,gr,λk=>by rw[kr];show K k↔K k\/K' k;rw[←e2,or_self],by exact ZH ‹_›⟩⟩
 ·have nab:(Vi b !=Vi a)=true:=by
   rw[bne_iff_ne];intro q
   injection q with q
   exact e q.symm
  refine gc nab ?_;obtain ⟨eb,epb,tb,hb,gb,kb,zb⟩:=y1;have ne:r≠b:=λe=>by obtain ⟨_,_,_,q,_⟩:=y;rw[←e,f1] at q;exact au q
  refine R7<|Sg ?_;refine R7<|SY ?_;refine R7<|mh ⟨_,hb,rfl⟩ ?_;refine R7<|Sg ?_;refine R7<|pK hb gb ?_;refine xF ne hr gr fr dr (Sb ‹_› ‹_›) hb gb (Sb ‹_› ‹_›) (λs' Q' q1 q2=>mr q1 gb q2) λh2 es2 ep2 t2 a2 b2 g2 k2 z2 O=> ?_;refine Sg ?_;exact Sg ⟨_,rfl,(λe=>nomatch e),h h2 r ⟨f1,k1.tZ f1 b2,es2,ep2,t2,a2,g2,λk=>by rw[k2,kr,kb],Ss z2<|UO zr zb⟩⟩
theorem MP{k:SK}(x:cS prog w s.heap a K n)(hn:n<900){c:Sq}(hc:c=R8↔K k)
  (h:fq s (Q<|.bool c)):Sm (Tj prog w) A (Ux .In (.int k tk)<|.ref a) Q E s:=by
 have hT:=x.typeIs;obtain ⟨es,ep,t,ho,g,kk,z⟩:=x;refine R7 ?_;unfold contains
 try with_reducible refine SY ?_
 refine R7<|XA hT FF.k8.lookup ?_;refine bM (by rw[beq_builtin_none];exact SR) ?_;refine R7 (wpAny_callSpecialUnlessNone?_slot hT FF.k8
  (Uw FF.k8 hT FF.uW ?_<|FF.vZ _ _));unfold VN.«frozenset.__contains__» aa0;simp only[List.isEmpty_nil,bind_assoc];refine R7<|Sg ?_;refine R7<|Sg ?_;refine R7<|wpAny_tryCatch ?_;refine SY ?_;refine R7<|(TX prog w).pyHash (Va _ _ _ _) ?_;refine R7<|uJ ho g (Sb ‹_› (Si ‹_› (by decide))) (λq=> ?_) λi q=> ?_
 ·have:c=false:=by rw[Bool.eq_false_iff,ne_eq,hc,←kk];exact q
  subst this;exact Sg<|Sg ⟨_,rfl,Tp<|Sg<|h _ rfl rfl rfl⟩
 ·have:c=true:=by rw[hc,←kk];exact SM q
  subst this;exact Sg<|Sg ⟨_,rfl,Tp<|Sg<|h _ rfl rfl rfl⟩
end
theorem dY.any{prog':Wm}{w':Yd}{es:Td (SK×Se)}{t:Uk}(g:dY prog w es t):dY prog' w' es t:=⟨λe he=>g.el e he,g.nd,g.fits⟩
theorem cS.any{prog':Wm}{w':Yd}{h:Tu}(x:cS prog w h a K n):cS prog' w' h a K n:=
 cS.casesOn x λes ep t e g i z=>⟨es,ep,t,e,g.any,i,z⟩
theorem DQ:Meets (VN.«frozenset.__new__» ⟨[.type "frozenset"],[]⟩) (λu0 R s=>∀led,R (.ok<|.ret<|.ref s.heap.objs.size) {s with heap:=s.heap.push (cu #[] 0<|freshT led)}):=
 .of_wp λprog w A R s h=>by
  have hsub:=FF.sub_self;have hinit:=FF.qw.lookup;obtain ⟨hp,g,d,tk,os⟩:=s
  wp_walk
  refine Vx<|Sg ?_;exact R7<|aaH<|Sg<|Sg ⟨_,rfl,h _⟩
section
theorem Fc(h:∀h' r,oT prog w s.heap h' r (λu0=>Ue) 0->Q (.ref r) {s with heap:=h'}):Sm (Tj prog w) A (Wv (.type "frozenset") []) Q E s:=by refine aai FF.called (by decide) FF.AZ FF.Dx (λobj=>F.args_object_init_1 obj) FF.vo DQ λled=> ?_;exact ⟨⟨_,SD _ rfl,rfl⟩,h _ _ ⟨bz<|SN _,bZ,#[],0,freshT led,SD _ rfl,oM led,λk=>by simp,by simp⟩⟩
theorem JU{l:SJ}{items:Td Se}{ks:R5 SK}{r:SJ}(hh:A.handled=Sd)(hv:items.toList.length=ks.length/\∀i (v:Se),items[i]? =KX v->∃t,v=.int (ks.getD i 0) t)(hb:ks.length<300)(hne:l≠I)(hr1:r≠I)(hr2:r≠l):
  ∀(n i:Sf) (s:Sn),items.size-i=n->i<=items.size->s.heap.IsListIter I l i->s.heap.IsList l items->cS prog w s.heap r (λk=>k∈ks.take i) i->
   (∀s',(∀b o,b∉ [r,I]->s.heap.get? b=KX o->s'.heap.get? b=KX o)->s'.gens=s.gens->s'.os=s.os->cS prog w s'.heap r (λk=>k∈ks) ks.length->R (.ok<|.ret .none) s')->
   Um (Tj prog w) A (.builtin "set.update.loop" ⟨[.ref r,.ref I],[]⟩) R s:=by
 have W:=(Walks.list (prog:=prog) (w:=w) (A:=A.in1) hh I l hne items);have hsz:=by simpa using hv.1
 intro n
 induction n with
 |zero=>
  intro i s hk hi hit hl x hR;obtain rfl:i=items.size:=U7 hi<|Nat.le_of_sub_eq_zero hk;refine Zi ZO ?_;rw[Zv Xd _];refine R7<|W.done s _ _ ⟨hit,hl⟩ λh' tk hm=> ?_;obtain ⟨es,ep,t,ho,g,kk,z⟩:=x;exact Sg<|hR {s with heap:=h',toks:=tk} (λb o hb e=>hm b o (λq=>hb (by simp at q;simp[q])) e) rfl rfl ⟨es,ep,t,hm r _ (by simp[hr1]) ho,g,λk=>by rw[kk,hsz,Yg],hsz▸z⟩
 |succ n ih=>
  intro i s hk hi hit hl x hR;refine Zi ZO ?_;rw[Zv Xd _];refine R7<|W.item i s _ _ (V5 hk) ⟨hit,hl⟩ λv h' tk hP hst' hm=> ?_;obtain ⟨t,rfl⟩:=hv.2 i v hP;have x':cS prog w h' r (λk=>k∈ks.take i) i:=by obtain ⟨es,ep,t,ho,q1,q2,q3⟩:=x;exact ⟨es,ep,t,hm r _ (by simp[hr1]) ho,q1,q2,q3⟩
  refine R7<|SY ?_;refine SY ?_;refine R7<|(TX prog w).pyHash (Va _ _ _ _) ?_;refine ur x' (Sw (V5 hk)<|Sb (SA hsz)<|Sw hb (by decide)) λu0 h2 b2 x2=> ?_;refine Sg ⟨plainId_quiet Xd _,ih (i+1) _ ((abn _ i 1).trans (R6 (·-1) hk)) (V5 hk) ?_ ?_ (x2.iff λk=> ?_) λs' q1 q2 q3 q4=> ?_⟩
  ·exact hst'.1.at λo e=>(b2.2 I hr1.symm).trans e
  ·exact hst'.2.at λo e=>(b2.2 l hr2.symm).trans e
  ·rw[aar,U3]
   have lt:i<ks.length:=hsz▸V5 hk;rw[S4 lt];simp[Ur,S4 lt]
  ·refine hR s' (λb o hb e=>q1 b o hb<|(b2.2 b<|λq=>hb (by simp[q])).trans<|hm b o (λq=>hb (by simp at q;simp[q])) e) q2 q3 q4
theorem Eb(J9:Wm)(QB:Yd)(l:SJ)(items:Td Se)(ks:R5 SK)(hv:items.toList.length=ks.length/\∀i (v:Se),items[i]? =KX v->∃t,v=.int (ks.getD i 0) t)(hb:ks.length<300):
  Meets (VN.«frozenset.__new__» ⟨[.type "frozenset",.ref l],[]⟩) (λA R s=>A.handled=Sd/\s.heap.IsList l items/\
   ∀s' r,oT J9 QB s.heap s'.heap r (λk=>k∈ks) ks.length->s'.gens=s.gens->s'.os=s.os->R (.ok<|.ret<|.ref r) s'):=
 .of_wp λprog w A R s ⟨hh,hl,h⟩=>by
  have hsub:=FF.sub_self;have hinit:=FF.qw.lookup;have hT:=hl.typeIs;generalize hU:aaY=U;obtain ⟨hp,g,d,tk,os⟩:=s
  wp_walk using WB hT
  refine Vx<|Sg ?_;refine R7<|aaH<|Sg ?_;generalize (!(Tj prog w).w.params.followText "set-order")=led;refine R7<|Sg ?_;refine R7<|SY ?_;subst hU;have hl1:(hp.push<|cu #[] 0<|freshT led).IsList l items:=hl.push _;have hT1:Shared.TypeIs ⟨hp.push<|cu #[] 0<|freshT led,g,d,tk,os⟩ (.ref l) "list":=hl1.typeIs;refine R7<|R7<|UW hT1 F.sub_list_set<|UW hT1 F.sub_list_frozenset ?_;refine R7<|WB hT1 ?_;refine bM (by decide) ?_;refine R7<|YE hl1 ?_;obtain ⟨ol,hol,_⟩:=hl;have lt:=TR hol;have fr:hp.get? hp.objs.size=none:=bz<|SN _;refine R7<|wpAny_runValue ?_;refine JU (I:=(hp.push<|cu #[] 0<|freshT led).objs.size) (ks:=ks) (items:=items) (r:=hp.objs.size) (by simp[hh]) hv hb ?_ ?_ ?_ (items.size-0) 0 _ (by rfl) (Ui _) ⟨_,SD _ rfl,rfl,rfl⟩ (hl1.push _) ?_ ?_
  ·rw[T9];exact Tz<|UD lt
  ·rw[T9];exact Tz<|T5 _
  ·exact Ya lt
  ·exact ⟨#[],0,freshT led,Su _<|SD _ rfl,oM led,λk=>by simp,by simp⟩
  ·intro s' q1 q2 q3 q4
   refine Sg<|Sg<|Sg ⟨_,rfl,h s' hp.objs.size ⟨fr,λb o e=> ?_,q4.any⟩ q2 q3⟩;have ltb:=TR e;exact q1 b o (by rw[T9];simp only[Ug,S7,WK,not_or];exact ⟨Tz ltb,Tz<|UD ltb⟩)<|Su _<|Su _ e
section
theorem Fs{l:SJ}{items:Td Se}{ks:R5 SK}(hh:A.handled=Sd)(hl:s.heap.IsList l items)
  (hv:items.toList.length=ks.length/\∀i (v:Se),items[i]? =KX v->∃t,v=.int (ks.getD i 0) t) (hb:ks.length<300)
  (h:∀s' r,oT prog w s.heap s'.heap r (λk=>k∈ks) ks.length->s'.gens=s.gens->s'.os=s.os->Q (.ref r) s'):Sm (Tj prog w) A (Wv (.type "frozenset") [.ref l]) Q E s:=by refine aai FF.called (by decide) (FF.Bf _) (FF.Dc _) (λobj=>F.args_object_init_2 obj _) FF.vo (Eb prog w l items ks hv hb) ⟨hh,hl,λs' r x g o=>⟨?_,h s' r x g o⟩⟩;obtain ⟨_,_,es,ep,t,e,_⟩:=x;exact ⟨_,e,rfl⟩
end
end
theorem iZ.toK{h:Tu}{l:R5 SK}(x:iZ S h a l):cS S.prog S.w h a (λk=>k∈l) l.length:=
 iZ.casesOn x λes ep t e g kk=>⟨es,ep,t,e,g,kk,TG▸Sr cW▸List.Nodup.length_le_of_subset g.nd λk hk=>(kk k).mp hk⟩
theorem cS.PU{h:Tu}{l:R5 SK}(x:cS S.prog S.w h a K n)(e:∀k,K k↔k∈l):iZ S h a l:=
 cS.casesOn x λes ep t e' g kk z=>⟨es,ep,t,e',g,λk=>(kk k).trans<|e k⟩
section
theorem ry{r:SJ}{l:R5 SK}(hs:s.heap=W.h)(x:oT S.prog S.w s.heap s'.heap r K n)(e:∀k,K k↔k∈l)(h2:s'.gens=s.gens)(h3:s'.os=s.os){Q:Sn->Prop}
  (g:Grows s W (λW'=>RV S W' (.ref r)<|.aQ l) Q):Q s':=
 g.more (hs▸x.2.1) h2 h3 (.aQ (x.2.2.PU e)<|Wd.d6<|hs▸x.1)
theorem I5{x y:R5 SK}(hs:s.heap=W.h)(hx:RV S W u (.aQ x))(hy:RV S W v (.aQ y))(lx:fh x.length=R8)(ly:fh y.length=R8)
  (g:∀q,Grows s W (λW'=>RV S W' q<|.aQ<|x.filter λk=> !y.contains k)<|Q q):Sm (md S) A (Vf .Sub u v) Q E s:=
 hx.tC λa a1 O=>hy.tC λb a2 O=>
  MB (hs▸a1).toK (Sa lx) (hs▸a2).toK (Sa ly) λh' r q=>ry (s':={s with heap:=h'}) hs q (λk=>by simp) rfl rfl (g _)
theorem Lj{x y:R5 SK}(hs:s.heap=W.h)(hx:RV S W u (.aQ x))(hy:RV S W v (.aQ y))(lx:fh x.length=R8)(ly:fh y.length=R8)
  (g:∀q,Grows s W (λW'=>RV S W' q<|.aQ<|x++y)<|Q q):Sm (md S) A (Vf .BitOr u v) Q E s:=
 hx.tC λa a1 O=>hy.tC λb a2 O=>
  Nd (hs▸a1).toK (Sa lx) (hs▸a2).toK (Sa ly) λh' r q=>ry (s':={s with heap:=h'}) hs q (λk=>List.mem_append.symm) rfl rfl (g _)
theorem BC{o:rT}{x y z:AV}(hs:s.heap=W.h)(h:fV o x y=KX z)(hx:RV S W u x)(hy:RV S W v y)
  (g:∀q,Grows s W (λW'=>RV S W' q z)<|Q q):Sm (md S) A (Vf (wD o) u v) Q E s:=
 MC hs h hx hy (λl m hx hy h=>aR (λc h=>ae (λc1 c2=>I5 hs hx hy c1 c2 λq s' W' a b c d e=>g q s' W' a b c d<|RV.to e h) c) h)
  (λl m hx hy h=>aR (λc h=>ae (λc1 c2=>Lj hs hx hy c1 c2 λq s' W' a b c d e=>g q s' W' a b c d<|RV.to e h) c) h) g
theorem Iw{i:SK}{l:R5 SK}(hs:s.heap=W.h)(hv:RV S W v (.aQ l))(hl:l.length<900)
  (h:fq s (Q<|.bool<|l.contains i)):Sm (md S) A (Ux .In (.int i t) v) Q E s:=
 hv.tC λa a1 O=>MP (hs▸a1).toK hl (by simp) h
end
theorem vI{x y:SK}{l:R5 SK}:insI x (y::l)=if x<=y then x::y::l else y::insI x l:=rfl
theorem insI_perm(x:SK)(l:R5 SK):Tr (insI x l) (x::l):=by
 induction l with
 |nil=>exact .rfl
 |cons y l ih=>
  rw[vI]
  split
  ·exact .rfl
  ·exact(ih.cons y).trans<|ZX x y l
theorem sortI_perm(l:R5 SK):Tr (sortI l) l:=by
 induction l with
 |nil=>exact .rfl
 |cons x l ih=>exact(insI_perm x _).trans<|ih.cons x
set_option tactic.hygienic true in
theorem yZ(x:SK)(l:R5 SK):l.Pairwise (·<=·)->(insI x l).Pairwise (·<=·):=by
 induction l with
 |nil=>exact λu0=>List.pairwise_singleton _ x
 |cons y l ih=>
  intro h;have h':=List.pairwise_cons.mp h;rw[vI]
  split
  ·rename_i hx
   exact List.pairwise_cons.mpr ⟨λz hz=>(List.mem_cons.mp hz).elim (λe=>e▸hx) λhz=>Yb hx<|h'.1 z hz,h⟩
  ·rename_i hx
   exact List.pairwise_cons.mpr ⟨λz hz=>(List.mem_cons.mp<|(insI_perm x l).mem_iff.mp hz).elim (λe=>e▸Wr (Int.not_le.mp hx))<|h'.1 z,ih h'.2⟩
theorem yG(l:R5 SK):(sortI l).Pairwise (·<=·):=by
 induction l with
 |nil=>exact .nil
 |cons x l ih=>exact yZ x _ ih
theorem Ct{l m:R5 SK}(p:Tr l m)(hl:l.Pairwise (·<=·))(hm:m.Pairwise (·<=·)):l=m:=
 List.Perm.eq_of_pairwise (λu0 u1 u2 u3=>Int.le_antisymm) hl hm p
theorem tq:∀{vs:R5 Se} {xs:R5 SK},aA S W vs l->intsOf l=KX xs->IntsAre vs xs:=by
 induction l with
 |nil=>exact fun{_ xs} r h=>r.bN<|I9 .nil h
 |cons x l ih=>exact fun{_ xs} r h=>r.aU λv us a b=>a.bt (λi h t=>bI (λys h1 e=>(R6 (IntsAre (.int i t::us)) e).mp<|.cons _ _<|ih b h1) h) h au
theorem Er{vs:R5 Se}{xs:R5 SK}(h:IntsAre vs xs):aA S W vs (xs.map .int):=
 IntsAre.rec aA.nil (λn t {vs ns} u ih=>aA.cons .int ih) h
theorem IK{vs:R5 Se}{xs:R5 SK}(h:IntsAre vs xs):vs.length=xs.length/\∀(i:Sf) (v:Se),vs.toArray[i]? =KX v->∃t,v=.int (xs.getD i 0) t:=
 ⟨aat h,λi v e=>IntsAre.int_at h i v (by simpa using e)⟩
noncomputable def vm(b:Bi):Value:=Bi.casesOn b (.builtin "len") (.builtin "max") (.type "int") (.type "str") (.type "list") (.type "tuple") (.builtin "sorted") (.type "frozenset")<|.type "frozenset"
theorem Dv:∀n:Sf,n<10->(ZF<|toString (n:SK)).cps.toList=digits n:=by decide+kernel
section
theorem d7{vs:R5 Se}(h:s.heap.get? a=KX (aE vs n)):s.heap.IsList a vs.toArray:=⟨_,h,rfl,n,rfl⟩
theorem r7{vs:R5 Se}(h:s.heap.get? a=KX (cE vs n)):IsTup s.heap a vs.toArray:=⟨_,h,rfl,n,rfl⟩
theorem gp{vs:R5 Se}(h:s.heap.get? a=KX (cE vs n)):s.heap.IsTuple a vs.toArray:=⟨_,h,rfl,n,rfl⟩
@[elab_as_elim] theorem aA.gC {P:R5 Se->Prop} {f:AV->Sh β} {z:β} (k:∀v x,RV S W v x->f x=KX z->P [v]) {vs:R5 Se} (r:aA S W vs l):Mine.gC l f=KX z->P vs:=by
 induction l using Sp with
 |nil=>exact au
 |cons x l=>induction l using Sp with
  |cons _ _=>exact au
  |nil=>exact λh=>r.aU λv us a b=>b.bN<|k v x a h
@[elab_as_elim] theorem aA.Bc {P:R5 Se->Prop} {f:AV->AV->Sh β} {z:β} (k:∀v x u y,RV S W v x->RV S W u y->f x y=KX z->P [v,u]) {vs:R5 Se} (r:aA S W vs l):Mine.Bc l f=KX z->P vs:=by
 induction l using Sp with
 |nil=>exact au
 |cons x l=>exact λh=>r.aU λv us a b=>b.gC (λu y b h=>k v x u y a b h) h
@[elab_as_elim] theorem RV.seq {x:AV} {P:Se->Prop} (hs:s.heap=W.h) (hx:RV S W v (.lst l)) (h:aw l.length=R8) (k:∀a vs n,s.heap.get? a=KX (aE vs n)->aA S W vs l->vs.length<1000->P (.ref a)):P v:=
 hx.kY λa vs n e O c=>k a vs n (hs▸e) c<|c.length▸cJ h
theorem CO{h:Tu}(k:∀a o,W.h.get? a=KX o->h.get? a=KX o):W.h.get? h.objs.size=none:=Option.eq_none_iff_forall_ne_some.mpr λo q=>TL (TR<|k _ _ q)<|XN _
theorem Ld{b:Bi}{vs:R5 Se}{z:AV}(hh:A.handled=Sd)(hs:s.heap=W.h)(h:gO b l=KX z)(r:aA S W vs l)
  (g:∀q,Grows s W (λW'=>RV S W' q z)<|Q q):Sm (md S) A (Wv (vm b) vs) Q E s:=by
 have gi:∀{i t s'},KX (.int i)=KX z->s'.heap=s.heap->s'.gens=s.gens->s'.os=s.os->Q (.int i t) s':=λh a b c=>(g _).here hs a b c<|RV.int.to h;have gg:∀{z'},KX z'=KX z->∀q,Grows s W (λW'=>RV S W' q z') (Q q):=λh q s' W' a b c d e=>g q s' W' a b c d<|RV.to e h;have sl:1000<sizeLine:=by decide
 have f0:W.h.get? s.heap.objs.size=none:=hs▸bz (SN _)
 induction b using Bi.casesOn
 ·exact r.gC (λv x rv h=>rv.cQ
   (λl h a vs n a1 O c1=>aR (λhl h=>len_tuple (r7<|hs▸a1) (by rw[Te,c1.length];exact Vp (Int.ofNat_lt.mpr<|cJ hl) (by decide))<|Te▸c1.length▸gi h rfl rfl rfl) h) h
   λh=>rv.cN
   (λl h a vs n a1 O c1=>aR (λhl h=>Yr (d7<|hs▸a1) (by rw[Te,c1.length];exact Vp (Int.ofNat_lt.mpr<|cJ hl) (by decide))<|Te▸c1.length▸gi h rfl rfl rfl) h) h au) h
 ·exact r.Bc (λv x u y rv ru h=>rv.bt (λi h t=>ru.bt (λj h t2=>
   max_two_ints hh λh' tk k=>(gg h _).more (hs▸k) rfl rfl (by
    by_cases q:i<j
    ·exact Sv q▸Sv q▸RV.int
    ·exact SI q▸SI q▸RV.int)) h au) h au) h
 ·exact r.gC (λv x rv h=>rv.bt (λi h t=>call_int_int<|gi h rfl rfl rfl) h
   λh=>rv.bR (λb h=>call_int_bool<|gi h rfl rfl rfl) h au) h
 ·exact r.gC (λv x rv h=>rv.bt (λk h t=>aR (λhk h=>by
   refine PySem.P.str_of_int ?_<|(gg h _).here hs rfl rfl rfl ?_
   ·by_cases h0:k.natAbs=0
    ·rw[h0];decide
    ·have:k.natAbs.log2<10:=(Nat.log2_lt h0).mpr<|Sw (Int.natAbs_lt_natAbs_of_nonneg_of_lt hk.1 hk.2) (by decide)
     exact Si ‹_› (by decide)
   ·obtain ⟨n,rfl⟩:=UP hk.1
    rw[UE,←Dv n<|Int.ofNat_lt.mp hk.2];exact .str) h) h au) h
 ·exact r.gC (λv x rv h=>AV.dH (P:=λx=>RV S W v x->_) (λl h rv=>aR (λhl h=>rv.seq (x:=.none) hs hl λa vs n a1 c1 lt=>
   call_list_seq _ (.inl rfl) a1 rfl rfl (λh' c' k at_=>(gg h _).more (hs▸k) rfl rfl (.lst at_ (Wd.d6 f0)<|c1.mono<|(Wd.gF<|hs▸k).le id)) (SQ<|Sw (Te▸lt) sl)) h) h au rv) h
 ·exact r.gC (λv x rv h=>AV.dH (P:=λx=>RV S W v x->_) (λl h rv=>aR (λhl h=>rv.seq (x:=.none) hs hl λa vs n a1 c1 lt=>
   call_tuple_list (d7 a1) (λh' k=>by have k:=hs▸k;have k2:∀(x:Xl) b o,W.h.get? b=KX o->(h'.push x).get? b=KX o:=λx b o e=>bZ b o<|k b o e;exact(gg h _).more (k2 _) rfl rfl (.tup (SD _ rfl) (Wd.d6<|CO k)<|c1.mono<|(Wd.gF<|k2 _).le id)) (SQ<|Sw (Te▸lt) sl)) h) h
   (λh rv=>rv.cQ (λl h a vs n a1 b1 c1=>call_tuple_same (gp<|hs▸a1)<|(gg h _).here hs rfl rfl rfl (.tup a1 b1 c1)) h au) rv) h
 ·exact r.gC (λv x rv h=>rv.cN (λl h a vs n a1 O c1=>aR (λhl h=>bI (λxs hx h=>by refine sorted_ints (d7<|hs▸a1) (tq c1 hx) (c1.length▸hl) λout ns' a b c=> ?_;have f:W.h.get? (s.heap.objs.size+1)=none:=hs▸bz (Tn _);refine(gg (R6 KX h) _).more (λb o e=>sortedAll_old<|show s.heap.get? b=KX o from hs▸e) rfl rfl ?_;have eq:=Ct (b.trans (sortI_perm xs).symm) c<|yG xs;obtain ⟨n,at_⟩:=sortedAll_at s.heap _ out;exact .lst (n:=n) (at_.trans (by simp[seqObj])) (Wd.d6 f)<|eq▸Er a) h) h) h au) h
 ·induction l using Sp with
  |cons _ _=>exact au h
  |nil=>exact r.bN<|Fc λh' r x=>ry (s':={s with heap:=h'}) hs x (λk=>by simp) rfl rfl (gg h _)
 ·exact r.gC (λv x rv h=>rv.cN (λl h a vs n a1 O c1=>aR (λhl h=>bI (λxs hx h=>
   have ia:=tq c1 hx
   Fs hh (d7<|hs▸a1) (IK ia) (Sw ((R6 (·<100)<|(aat ia).symm.trans c1.length).mpr<|Sa hl) (by decide)) λs' r x g1 g2=>ry hs x (λk=> .rfl) g1 g2<|gg (R6 KX h) _) h) h) h au) h
theorem Ow{x y z:AV}(hs:s.heap=W.h)(hu:A.units+200<WL)(h:ff x y=KX z)(hx:RV S W u x)(hy:RV S W v y)
  (g:∀q,RV S W q z->fq s (Q q)):Sm (md S) A (Xv u v) Q E s:=by
 have at_:∀{l:R5 AV} {vs:R5 Se} {k:SK},aA S W vs l->(if 0<=k/\k<big then l[k.toNat]? else Sd)=KX z->0<=k/\k<2^62/\∃q,vs.toArray[k.toNat]? =KX q/\RV S W q z:=λc h=>aR (λhk h=>⟨hk.1,hk.2,(c.get h).elim λq e=>⟨q,V2▸e.1,e.2⟩⟩) h;refine hx.cQ (λl h a vs n a1 O c1=> ?_) h λh=> ?_
 ·refine hy.bt (λk h t=> ?_) h au
  obtain ⟨k0,k1,q,e1,e2⟩:=at_ c1 h;have lt:=(Array.getElem?_eq_some_iff.mp e1).1;refine PyProof.Rows.getItem_tuple (r7<|hs▸a1) (Yb (by decide) k0) (Vp k1 (by decide)) ?_ e1<|g q e2 s rfl rfl rfl;unfold seqIndex?;rw[SI (Int.not_lt.mpr k0)];rw[Sv (Bool.and_eq_true_iff.mpr ⟨Sz k0,Sz<|(ZJ k0).mp lt⟩)]
 refine hx.cN (λl h a vs n a1 O c1=> ?_) h λh=> ?_
 ·refine hy.bt (λk h t=> ?_) h au
  obtain ⟨k0,k1,q,e1,e2⟩:=at_ c1 h;exact Yl (d7<|hs▸a1) k0 (Vp k1 (by decide)) e1<|g q e2 s rfl rfl rfl
 exact hx.pb (λl h a es n a1 O c1 d1 u1=>AV.dG (P:=λy=>RV S W v y->_) (λk h hy=>aR (λhk h=>Ar hs hu hy hk a1 c1 d1 h g) h) h au hy) h
  λh=>hx.yF (λl h a es n a1 O c1 d1=>hy.bt (λk h t=>aR (λu0 h=>Ap hs a1 c1 d1 h g) h) h au) h
  λh=>hx.yh (λl h a es n a1 O c1 d1=>hy.onStr (λk h x t e=>Jv hs a1 c1 d1 (e.symm▸h) g) h au) h au
end
section
@[elab_as_elim] theorem RV.shape {P:Se->Prop} (hb:∀b,P<|.bool b) (hi:∀i t,P<|.int i t) (hs:∀x t,P<|.str x t) (hr:∀a,P<|.ref a) (hf:∀f,P<|S.bK f):∀{x:AV},RV S W v x->(x.cM Ue Y2->P .none)->P v:=by
 intro x;induction x using AV.casesOn<;>first
  |exact λr h=>r.Bu<|h trivial
  |exact λr O=>r.oZ<|hb _
  |exact λr O=>r.eS<|hi _
  |exact λr O=>r.nK λu0 u1 u2=>hs _ _
  |exact λr O=>r.GQ<|hf _
  |exact λr O=>r.K5<|hr _
  |exact λr O=>dg.casesOn r λu0 u1 u2=>hr _
  |exact λr O=>jg.casesOn r λu0 u1 u2 u3 u4=>hr _
  |exact λr O=>dp.casesOn r λu0 u1 u2 u3=>hr _
  |exact λr O=>jf.casesOn r λu0 u1=>hr _
  |exact λr O=>eY.casesOn r λu0 u1 u2 u3 u4=>hr _
  |exact λr O=>gu.casesOn r λu0=>hr _
  |exact λr O=>eX.casesOn r λu0 u1 u2=>hr _
  |exact λr O=>gE.casesOn r λu0 u1 u2 u3 u4 u5 u6 u7 u8=>hr _
  |exact λr O=>gR.casesOn r λu0 u1=>hr _
theorem RV.FP{x:AV}(hf:∀f,(S.bK f==.none)=Sj)(r:RV S W v x):(v==Value.none)=x.cM Sj true:=by
 induction x using AV.casesOn<;>first
  |exact r.Bu rfl
  |exact RV.shape (λu0=>rfl) (λu0 u1=>rfl) (λu0 u1=>rfl) (λu0=>rfl) hf r YM
theorem Hf{x y:AV}{c:Sq}(hs:s.heap=W.h)(hu:A.units+200<WL)(h:Lc x y=KX c)(hn:y.jS Sj (λu0=>R8)=R8->neg=Sj)(hx:RV S W u x)(hy:RV S W v y)
  (g:fq s (Q<|.bool<|c !=neg)):Sm (md S) A (Ux (if neg then .NotIn else .In) u v) Q E s:=by
 have hu':=Sb (S2 (by decide:64<=200) A.units) hu;have g0:=g s rfl rfl rfl;refine AV.dG (λl h hy=>CK hs h hx (.inl hy) hu' g0) h (λh hy=> ?_) hy;refine AV.dH (λl h hy=>CK hs h hx (.inr hy) hu' g0) h (λh hy=> ?_) hy;refine AV.jk (λl h hy hn=> ?_) h (λh hy O=> ?_) hy hn
 ·have e:=hn rfl
  refine hx.bt (λi h t=>aR (λc1 h=>ae (λu0 c3=> ?_) c1) h) h au;have g:=(R6 (λb=>fq s<|Q<|.bool b) ((R6 (c !=·) e).trans<|Ws c)).mp g;exact(R6 (λn=>Sm (md S) A (Ux (if n=R8 then .NotIn else .In) (.int i t) v) Q E s) e).mpr<|Iw hs hy (Sw (Sa c3) (by decide))<|(R6 (λb=>fq s<|Q<|.bool b)<|R9 h).mpr g
 ·exact hy.pb (λl h a es n a1 O c1 d1 e1=>AV.dG (P:=λx=>RV S W u x->_) (λk h hx=>aR (λhk h=>yx hs hu hx hk a1 c1 d1 e1<|(R6 (λb=>fq s<|Q<|.bool<|b !=neg)<|R9 h).mpr g) h) h au hx) h au
theorem BV{o:pW}{x y:AV}(hf:∀f,(S.bK f==.none)=Sj)(hs:s.heap=W.h)(hu:A.units+200<WL)(h:dF o x y=KX b)(hx:RV S W u x)(hy:RV S W v y)
  (g:fq s (Q<|.bool b)):Sm (md S) A (Ux (wy o) u v) Q E s:=by
 have g0:=g s rfl rfl rfl;have hu':=Sb (S2 (by decide:64<=200) A.units) hu;have i2:∀{f:SK->SK->Sq} {op},pA x y (λi j=>KX<|f i j)=KX b->(∀i j t t2,Q (.bool<|f i j) s->Sm (md S) A (Ux op (.int i t)<|.int j t2) Q E s)->Sm (md S) A (Ux op u v) Q E s:=
  fun{f op} h k=>hx.bt (λi h t=>hy.bt (λj h t2=>k i j t t2<|(R6 (λb=>Q (.bool b) s)<|R9 h).mpr g0) h au) h au;have sn:∀{c},c= !b->fq s (Q<|.bool<|c !=R8):=fun{c} e=>(R6 (λb=>fq s<|Q<|.bool b) ((R6 (· !=R8) e).trans<|(XM _).trans<|Bool.not_not b)).mpr g;have nn:∀{P:Prop} {β:Type} {z:β} {w:Sh β},y.cM Sd w=KX z->(y=.none->w=KX z->P)->P:=fun{P β z w} h k=>by
  induction y using AV.casesOn<;>first|exact k rfl h|exact au h
 have is_:∀{c},EW x y=KX c->v=.none/\(u==Value.none)=c:=λh=>nn h λe h=>⟨(e▸hy:RV S W v .none),(hx.FP hf).trans (by
  induction x using AV.casesOn<;>first|exact R9 h|exact au h)⟩
 induction o using pW.casesOn
 ·exact i2 h λu0 u1 u2 u3=>YJ
 ·exact i2 h λu0 u1 u2 u3=>PyProof.Rows.gt_int
 ·exact i2 h λu0 u1 u2 u3=>PyProof.Rows.ge_int
 ·exact i2 h λu0 u1 u2 u3=>YK
 ·exact Ob hs h hx hy hu' g0
 ·exact Nr hs h hx hy hu' g0
 ·exact Hf hs hu h (λu0=>rfl) hx hy<|(R6 (λb=>fq s<|Q<|.bool b)<|Ws b).mpr g
 ·have nf:∀{y},LB x y=KX b->y.jS Sj (λu0=>R8)=R8->Y2=False:=by intro y;induction y using AV.casesOn<;>first|exact λh O=>au h|exact λu0 h=>bc h
  exact AV.jk (λu0 h=>au h) h λh'=>bI (λc hc e2=>Hf hs hu hc (λq=>(nf h q).mp trivial|>.elim) hx hy<|sn<|Bool.not_eq_eq_eq_not.mp e2) h'
 ·have q:=is_ h
  exact q.1▸is_none_gen (q.2▸g0)
 ·exact bI (λc hc e=>have q:=is_ hc;q.1▸isnot_none_gen ((R6 (λb=>Q (.bool b) s) ((R6 (!·) q.2).trans e)).mpr g0)) h
theorem yQ(k:SK)(n:Sf):Wb Sd (KX k) 1 (n:SK)=(0,(ip n k:SK)):=by
 unfold Wb ip;have h1:¬((1:SK)<0):=by decide
 simp only[h1,if_false]
 congr 1
 by_cases h:k<0
 ·rw[Sv h,SI<|Int.not_le.mpr ‹_›]
  exact(Int.ofNat_toNat _).symm
 ·rw[SI h,Sv<|Int.not_lt.mp ‹_›]
  exact(R6 (min · (n:SK)) (Z6<|Int.not_lt.mp h).symm).trans (Lean.Omega.Int.ofNat_min _ _).symm
theorem zo(c:Sf):U5 0 (c:SK) 1=c:=by
 unfold U5;have h1:(1:SK)>0:=by decide
 rw[Sv h1,Int.ediv_one];rw[Int.sub_zero,Int.sub_add_cancel]
 cases c with
 |zero=>rfl
 |succ c=>exact R6 aaW<|Sv<|Int.natCast_succ_pos c
theorem Bp{sl:SJ}{k:SK}{u:Tok}{Q:SK×SK×Sf->Sn->Prop}(hs:s.heap.IsSliceOf sl .none (.int k u) .none)(h:Q (0,1,ip n k) s):
  Sm (md S) A (Builtin.Slice.sliceApplied (.ref sl)<|pure (n:SK)) Q E s:=by obtain ⟨os,hos,hcs,hds⟩:=id hs;refine R7<|R7<|Vs hos hds rfl (R7<|Vs hos hds rfl (R7<|Vs hos hds rfl (Sg ?_)));refine R7<|slicePart_none ?_;refine bM (by decide) ?_;refine R7<|slicePart_none<|R7<|slicePart_int<|R7<|Sg ?_;show Sm _ _ (match Wb Sd (KX k) 1 n with|(lo,hi)=>pure (lo,(1:SK),U5 lo hi 1)) _ _ s;rw[yQ];show Sm _ _ (pure (0,1,U5 0 (ip n k) 1)) _ _ s;rw[zo];exact Sg h
theorem Dr(xs:Td Se)(c:Sf):((So c).filterMap fun(k:Sf)=>xs[((0:SK)+(k:SK)*1).toNat]?)=xs.toList.take c:=by
 have e:(fun(k:Sf)=>xs[(0+(k:SK)*1).toNat]?)=λk=>xs[k]? :=by
  funext k
  have:(0+(k:SK)*1).toNat=k:=by rw[Wq,Int.mul_one];rfl
  rw[this]
 rw[e];have:=pick_run xs 0 c;rw[Z5] at this
 simpa [Function.comp_def] using this
theorem QE(n:Sf)(k:SK):ip n k<=n:=by
 unfold ip
 split
 ·exact Yu _ _
 ·exact Int.toNat_le.mpr<|Yb (Int.add_le_add_right (Wr<|Int.not_le.mp ‹_›) n)<|Int.le_of_eq<|Wq n
theorem NO{sl:SJ}{k:SK}(hs:s.heap=W.h)(hl:aw l.length=R8)(hu:RV S W u (.tup l))(hsl:s.heap.IsSliceOf sl .none (.int k t) .none)
  (g:∀q,Grows s W (λW'=>RV S W' q<|.tup<|l.take<|ip l.length k)<|Q q):Sm (md S) A (Xv u<|.ref sl) Q E s:=by
 have hl:=cJ hl;refine hu.gy λa vs n a1 b1 c1=> ?_;have len:=c1.length;have a2:=a1;rw[←hs] at a1;have ht:=r7 a1;obtain ⟨os,hos,hcs,hds⟩:=id hsl;have hTs:s.TypeIs (.ref sl) "slice":=⟨os,hos,hcs⟩;unfold Xv
 try with_reducible refine SY ?_
 first|refine R7 (Sg ?_)|skip
 refine R7<|wpAny_sequenceKey ht.typeIs (by decide) ?_;refine R7 (VW ht.typeIs abi
  (Uw abi ht.typeIs entry_tuple_getitem ?_<|args_tuple_getitem _ _));show Sm _ _ (XK (.ref a)>>=_) _ _ s;refine R7<|tupleItemsOf_ ht ?_;refine R7<|WB hTs ?_;refine gc (by decide) ?_;refine R7<|Bp hsl ?_;have sz:vs.toArray.size=vs.length:=Te;rw[sz];show Sm _ _ (if(0==0&&1==1&&(ip vs.length k)==vs.length)=R8 then _ else _) _ _ s;rw[Dr]
 by_cases hc:((0:SK)==0&&(1:SK)==1&&(ip vs.length k)==vs.length)=R8
 ·rw[Sv hc]
  simp only[Ta,WM] at hc;refine R7<|R7<|WB ht.typeIs<|Sg ?_;refine gc (by decide) ?_;have e:l.take (ip l.length k)=l:=by rw[←len,hc.2,len,Yg]
  rw[e] at g;exact R7<|Uz<|Sg ⟨_,rfl,Sg<|(g _).here hs rfl rfl rfl (.tup a2 b1 c1)⟩
 ·rw[SI hc]
  have hz:=by show(vs.take<|ip vs.length k).toArray.size<=UZ;rw[Te,Yh,T6];exact Ss (Yu _ _)<|Ss (SA len)<|SQ<|Sw hl (by decide)
  have fin:Q (.ref s.heap.objs.size) {s with heap:=s.heap.push {cls:=.type "tuple",data:=.seq (vs.take<|ip vs.length k).toArray}}:=by
   have k':∀(x:Xl) b o,W.h.get? b=KX o->(s.heap.push x).get? b=KX o:=λx b o e=>bZ b o (by rw[hs];exact e);have f:W.h.get? s.heap.objs.size=none:=by rw[hs];exact bz<|SN _
   refine(g _).more (k' _) rfl rfl (.tup (SD _ rfl) (Wd.d6 f) ?_);rw[←len];exact(c1.take _).mono<|(Wd.gF<|k' _).le id
  first
   |exact R7<|UG (Sg ⟨_,rfl,Sg fin⟩) hz
   |exact R7<|UG (R7<|Sg<|Sg ⟨_,rfl,Sg fin⟩) hz
   |exact R7<|R7<|UG (Sg<|Sg ⟨_,rfl,Sg fin⟩) hz
   |exact R7<|R7<|UG (Sg ⟨_,rfl,Sg fin⟩) hz
end
section
variable{vs:R5 Se}
theorem pJ{h:Tu}{f:Td Se->Td Se}(ho:h.get? a=KX (aE vs n))(e:f vs.toArray=ws.toArray):
  ∃n',(h.update a<|Y3 f).get? a=KX (aE ws n')/\SO a h (h.update a<|Y3 f):=by
 obtain ⟨n',q⟩:∃n',Y3 f (aE vs n)=aE ws n':=by unfold Y3;simp only[e];exact ⟨_,rfl⟩
 refine ⟨n',?_,VV ..⟩;rw[U9 _ ho (by rw[q];rfl),q]
theorem kU(ho:s.heap.get? a=KX (aE vs n))(sz:vs.length<2000)
  (h:∀h' n',h'.get? a=KX (aE (vs++[v]) n')->SO a s.heap h'->Q .none {s with heap:=h'}):Sm (md S) A (Wv (.builtin "list.append") [.ref a,v]) Q E s:=by refine wpAny_list_append_plain ⟨n,ho⟩ (λh' ⟨n',x⟩ sb=>h h' n' ?_ sb) (by rw[Te,T6];exact SQ<|Si ‹_› (by decide));rw[x];simp[aE]
theorem DE{b:SJ}{m:Sf}(ho:s.heap.get? a=KX (aE vs n))(hb:s.heap.get? b=KX (aE ws m))(sz:vs.length<1000)(sz2:ws.length<1000)
  (h:∀h' n',h'.get? a=KX (aE (vs++ws) n')->SO a s.heap h'->Q .none {s with heap:=h'}):Sm (md S) A (Wv (.builtin "list.extend") [.ref a,.ref b]) Q E s:=by
 refine VP YI ⟨_,ho,rfl⟩ PySem.F.entry_list_extend (PySem.F.args_list_extend_2 _ _)
  (AutoSeq1.list_extend_list_list_0 a vs.toArray n b ws.toArray m ?_ ?_ ?_) ⟨ho,hb,?_⟩
 ·simp[Vd];exact λu0=>SQ<|Sw (VS sz sz2) (by decide)
 ·rw[Te,T6];exact SQ<|Si ‹_› (by decide)
 ·rw[Te,Te,T6];exact SQ<|Sw (VS sz sz2) (by decide)
 ·obtain ⟨n',x,sb⟩:=pJ (f:=λxs=>xs++ws.toArray) (ws:=vs++ws) ho (by simp)
  exact h _ n' x sb
theorem KJ(ho:s.heap.get? a=KX (aE (ws++[v]) n))(sz:ws.length<1000)
  (h:∀h' n',h'.get? a=KX (aE ws n')->SO a s.heap h'->Q v {s with heap:=h'}):Sm (md S) A (Wv (.builtin "list.pop") [.ref a]) Q E s:=by refine VP Zd ⟨_,ho,rfl⟩ PySem.F.entry_list_pop (PySem.F.args_list_pop_1 _) (MeetsSeq.list_pop_last a (ws++[v]).toArray n v (by simp) (by simp[UZ];exact SQ<|Si ‹_› (by decide))) ⟨ho,?_⟩;obtain ⟨n',x,sb⟩:=pJ (f:=λxs=>xs.eraseIdxIfInBounds<|(ws++[v]).toArray.size-1) (ws:=ws) ho (by simp[List.eraseIdx_append_of_length_le]);exact h _ n' x sb
theorem CH{k:SK}{Q:TZ->Sn->Prop}(ho:s.heap.get? a=KX (aE vs n))(sz:vs.length<2000)(h0:0<=k)(h1:k.toNat<vs.length)
  (h:∀h' n',h'.get? a=KX (aE (vs.set k.toNat v) n')->SO a s.heap h'->Q () {s with heap:=h'}):Sm (md S) A (X4 (.ref a) (.int k t) v) Q E s:=by
 have hl:=d7 ho;unfold X4
 try with_reducible refine SY ?_
 first|refine R7 (Sg ?_)|skip
 refine R7<|wpAny_sequenceKey hl.typeIs (by decide) ?_;refine R7 (VW hl.typeIs slot_list_setitem
  (Uw slot_list_setitem hl.typeIs entry_list_setitem ?_<|args_list_setitem _ _ _));show Sm _ _ (Builtin.List.listSubscript? (.int k t)>>=_) _ _ s;refine R7<|wpAny_listSubscript_int (fitsIndex_of h0<|Vp ((ZJ h0).mp<|Sw h1 sz) (by decide)) ?_;obtain ⟨j,rfl⟩:=UP h0;have hj:=h1;have hx':vs.toArray[j]? =KX vs[j]:=by simp[hj]
 refine R7<|R7<|wpAny_seqItemAt ho rfl (Sg ?_);rw[hx'];obtain ⟨n',x,sb⟩:=pJ (f:=λxs=>xs.setIfInBounds j v) (ws:=vs.set j v) ho (by simp);refine R7<|wpAny_setSeqItemAt ho rfl ?_
 first
  |exact R7<|Sg<|Sg ⟨.none,rfl,Sg<|h _ n' x sb⟩
  |exact Sg ⟨.none,rfl,Sg<|h _ n' x sb⟩
end
def aF.seen(ℓ:aF):Prop:=ℓ=.out\/ℓ.bC=R8
theorem FR.kp(mv:W.Kp aF.seen W')(r:FR S W env ks loc):FR S W' env ks loc:=r.rJ mv (.inl rfl) λu0=> .inr
structure Wd.Fk(W W':Wd):Prop extends Wd.Go W W' where
 seen:∀a o ℓ,ℓ.bC=R8->W.h.get? a=KX o->W.ah a=KX ℓ->W'.h.get? a=KX o/\W'.ah a=KX ℓ
theorem Wd.Fk.kp(x:W.Fk W'):W.Kp aF.seen W':=⟨x.toFe,λa o ℓ p e l=>p.elim (λq=>have l:=q▸l;⟨x.outk a o e l,q▸x.out a o e l⟩) λp=>x.seen a o ℓ p e l⟩
theorem Wd.Fk.refl(W:Wd):W.Fk W:=⟨.refl W,λu0 u1 u2 u3 e l=>⟨e,l⟩⟩
theorem Wd.Fk.trans(x:W.Fk W')(y:W'.Fk W''):W.Fk W'':=
 ⟨x.toGo.trans y.toGo,λa o ℓ p e l=>have q:=x.seen a o ℓ p e l;y.seen a o ℓ p q.1 q.2⟩
theorem Wd.Mv.fk{L:aF->Prop}(m:W.Mv L W')(h1:¬L .out)(h2:∀n,¬L (.hd n))(h:∀ℓ,ℓ.bC=R8->¬L ℓ):W.Fk W':=
 ⟨m.go h1 h2,λa o ℓ p e l=>⟨m.mU e l<|h ℓ p,(m.ah a o e).trans l⟩⟩
section
structure gh where
 gn:R5 SS
 nm:R5 SS
noncomputable def du(e:SE):Bool:=by
 induction e using SH with
 |Set x y z=>exact Sj
 |Starred x y=>exact Sj
 |Slice x y z w=>exact Sj
 |_=>exact R8
noncomputable def jO:Tq->VK
 |.local=> .l
 |.cell=> .c
 |.free=> .r
 |_=> .g
def bJ(names:R5 (SS×Tq)):R5 (SS×VK):=names.map λp=>(p.1,jO p.2)
noncomputable def eD{α:Type}(f:α->Sq)(o:Sh α):Bool:=Sl o Sj f
@[elab_as_elim] theorem da {f:α->Sq} {P:Sh α->Prop} (k:∀x,f x=R8->P (KX x)) {e:Sh α}:eD f e=R8->P e:=by
 induction e using Sl
 ·exact bc
 ·exact k _
theorem eO(h:(!b)=R8):b=false:=Vb b▸h
def cA(ks:R5 (SS×VK))(i:Sf)(x:SS):Bool:=eD (λp=>decide (p.1=x)&&decide (p.2≠ .g)&& !(x==("__debug__":SS))&& !(x==("__classdict__":SS))) ks[i]?
theorem jr{i:Sf}{x:SS}{P:Prop}(k:∀k,ks[i]? =KX (x,k)->k≠ .g->(x==("__debug__":SS))=Sj->(x==("__classdict__":SS))=Sj->P)(h:cA ks i x=R8):P:=
 da (P:=λo=>o=ks[i]? ->P) (λp h e=>ae (λh d=>ae (λh c=>ae (λa b=>k p.2 (e.symm.trans (R6 (λy=>KX (y,p.2))<|Sa a)) (Sa b) (eO c)<|eO d) h) h) h) h rfl
noncomputable def eP(ks:R5 (SS×VK))(x:SS):Bool:=ks.any (λp=>decide (p.1=x)&&decide (p.2=.g))&& !(x==("__debug__":SS))
def jY(tb:gh)(ks:R5 (SS×VK))(g:Sf)(x:SS):Bool:=decide (tb.gn[g]? =KX x)&&eP ks x
noncomputable def GI(c:YP):Bool:=by
 induction c using U4 with
 |none=>exact R8
 |_=>exact Sj
noncomputable def cBool(f:Sq->Sq)(c:YP):Bool:=by
 induction c using U4 with
 |bool b=>exact f b
 |_=>exact Sj
noncomputable def cInt(f:SK->Sq)(c:YP):Bool:=by
 induction c using U4 with
 |int b=>exact f b
 |_=>exact Sj
noncomputable def cStr(f:SS->Sq)(c:YP):Bool:=by
 induction c using U4 with
 |str b=>exact f b
 |_=>exact Sj
def Li(v:AV)(c:YP):Bool:=v.cM (v.bR (v.bt (v.onStr Sj λl=>cStr (λb=>decide (b.cps.toList=l)) c) λi=>cInt (λb=>decide (i=b)) c) λb=>cBool (λx=>b==x) c)<|GI c
section
variable{c:YP}{P:YP->Prop}
theorem E5(k:P .none):GI c=R8->P c:=by induction c using U4<;>first|exact λu=>k|exact bc
theorem FT{f:Sq->Sq}(k:∀b,f b=R8->P (.bool b)):cBool f c=R8->P c:=by induction c using U4<;>first|exact k _|exact bc
theorem JP{f:SK->Sq}(k:∀b,f b=R8->P (.int b)):cInt f c=R8->P c:=by induction c using U4<;>first|exact k _|exact bc
theorem I7{f:SS->Sq}(k:∀b,f b=R8->P (.str b)):cStr f c=R8->P c:=by induction c using U4<;>first|exact k _|exact bc
end
noncomputable def vE:Bi->SS
 |.len=>"len"|.max=>"max"|.int=>"int"|.str=>"str"|.list=>"list"|.tup=>"tuple"|.HF=>"sorted"|.Pt=>"frozenset"|.sN=>"frozenset"
noncomputable def isTup(e:SE):Bool:=by
 induction e using SH with
 |Tuple x y z=>exact R8
 |_=>exact Sj
def iJ(s:Src)(e:SE):Bool:=by
 induction s using Src.casesOn with
 |enum a=>exact isTup e
 |_=>exact R8
noncomputable def oP(s:Src):Bool:=by
 induction s using Src.casesOn with
 |cb g l=>exact Sj
 |_=>exact R8
noncomputable def t5(f:YP->Sf->Vu->Sq)(e:SE):Bool:=by
 induction e using SH with
 |Constant x y z=>exact f x y z
 |_=>exact Sj
@[elab_as_elim] theorem k6 {f:YP->Sf->Vu->Sq} {P:SE->Prop} (k:∀a b c,f a b c=R8->P (.Constant a b c)):t5 f e=R8->P e:=by induction e using SH<;>first|exact k _ _ _|exact bc
noncomputable def bS(f:SS->Vu->Sq)(e:SE):Bool:=by
 induction e using SH with
 |Name x y=>exact f x y
 |_=>exact Sj
@[elab_as_elim] theorem aZ {f:SS->Vu->Sq} {P:SE->Prop} (k:∀a b,f a b=R8->P (.Name a b)):bS f e=R8->P e:=by induction e using SH<;>first|exact k _ _|exact bc
noncomputable def iD(f:R5 SE->Sf->Vu->Sq)(e:SE):Bool:=by
 induction e using SH with
 |Tuple x y z=>exact f x y z
 |_=>exact Sj
@[elab_as_elim] theorem gk {f:R5 SE->Sf->Vu->Sq} {P:SE->Prop} (k:∀a b c,f a b c=R8->P (.Tuple a b c)):iD f e=R8->P e:=by induction e using SH<;>first|exact k _ _ _|exact bc
noncomputable def jx(f:R5 SE->Vu->Sq)(e:SE):Bool:=by
 induction e using SH with
 |List x y=>exact f x y
 |_=>exact Sj
@[elab_as_elim] theorem fA {f:R5 SE->Vu->Sq} {P:SE->Prop} (k:∀a b,f a b=R8->P (.List a b)):jx f e=R8->P e:=by induction e using SH<;>first|exact k _ _|exact bc
noncomputable def sP(f:R5 (Sh SE)->R5 SE->Vu->Sq)(e:SE):Bool:=by
 induction e using SH with
 |Dict x y z=>exact f x y z
 |_=>exact Sj
@[elab_as_elim] theorem mX {f:R5 (Sh SE)->R5 SE->Vu->Sq} {P:SE->Prop} (k:∀a b c,f a b c=R8->P (.Dict a b c)):sP f e=R8->P e:=by induction e using SH<;>first|exact k _ _ _|exact bc
noncomputable def uB(f:SE->V9->SE->Vu->Sq)(e:SE):Bool:=by
 induction e using SH with
 |BinOp x y z w=>exact f x y z w
 |_=>exact Sj
@[elab_as_elim] theorem pH {f:SE->V9->SE->Vu->Sq} {P:SE->Prop} (k:∀a b c d,f a b c d=R8->P (.BinOp a b c d)):uB f e=R8->P e:=by induction e using SH<;>first|exact k _ _ _ _|exact bc
noncomputable def qL(f:Xx->SE->Vu->Sq)(e:SE):Bool:=by
 induction e using SH with
 |UnaryOp x y z=>exact f x y z
 |_=>exact Sj
@[elab_as_elim] theorem jU {f:Xx->SE->Vu->Sq} {P:SE->Prop} (k:∀a b c,f a b c=R8->P (.UnaryOp a b c)):qL f e=R8->P e:=by induction e using SH<;>first|exact k _ _ _|exact bc
noncomputable def rX(f:X1->R5 SE->Vu->Sq)(e:SE):Bool:=by
 induction e using SH with
 |BoolOp x y z=>exact f x y z
 |_=>exact Sj
@[elab_as_elim] theorem kD {f:X1->R5 SE->Vu->Sq} {P:SE->Prop} (k:∀a b c,f a b c=R8->P (.BoolOp a b c)):rX f e=R8->P e:=by induction e using SH<;>first|exact k _ _ _|exact bc
noncomputable def Ak(f:SE->SE->SE->Vu->Sq)(e:SE):Bool:=by
 induction e using SH with
 |IfExp x y z w=>exact f x y z w
 |_=>exact Sj
@[elab_as_elim] theorem sQ {f:SE->SE->SE->Vu->Sq} {P:SE->Prop} (k:∀a b c d,f a b c d=R8->P (.IfExp a b c d)):Ak f e=R8->P e:=by induction e using SH<;>first|exact k _ _ _ _|exact bc
noncomputable def kN(f:SE->R5 X0->R5 SE->Vu->Sq)(e:SE):Bool:=by
 induction e using SH with
 |Compare x y z w=>exact f x y z w
 |_=>exact Sj
@[elab_as_elim] theorem gB {f:SE->R5 X0->R5 SE->Vu->Sq} {P:SE->Prop} (k:∀a b c d,f a b c d=R8->P (.Compare a b c d)):kN f e=R8->P e:=by induction e using SH<;>first|exact k _ _ _ _|exact bc
noncomputable def eJ(f:SE->SE->Vu->Sq)(e:SE):Bool:=by
 induction e using SH with
 |Subscript x y z=>exact f x y z
 |_=>exact Sj
@[elab_as_elim] theorem dn {f:SE->SE->Vu->Sq} {P:SE->Prop} (k:∀a b c,f a b c=R8->P (.Subscript a b c)):eJ f e=R8->P e:=by induction e using SH<;>first|exact k _ _ _|exact bc
noncomputable def zx(f:Sh SE->Sh SE->Sh SE->Vu->Sq)(e:SE):Bool:=by
 induction e using SH with
 |Slice x y z w=>exact f x y z w
 |_=>exact Sj
@[elab_as_elim] theorem A4 {f:Sh SE->Sh SE->Sh SE->Vu->Sq} {P:SE->Prop} (k:∀a b c d,f a b c d=R8->P (.Slice a b c d)):zx f e=R8->P e:=by induction e using SH<;>first|exact k _ _ _ _|exact bc
noncomputable def bQ(f:SE->SS->Vu->Sq)(e:SE):Bool:=by
 induction e using SH with
 |Attribute x y z=>exact f x y z
 |_=>exact Sj
@[elab_as_elim] theorem bu {f:SE->SS->Vu->Sq} {P:SE->Prop} (k:∀a b c,f a b c=R8->P (.Attribute a b c)):bQ f e=R8->P e:=by induction e using SH<;>first|exact k _ _ _|exact bc
noncomputable def dM(f:SE->R5 SE->R5 Keyword->Vu->Sq)(e:SE):Bool:=by
 induction e using SH with
 |Call x y z w=>exact f x y z w
 |_=>exact Sj
@[elab_as_elim] theorem cF {f:SE->R5 SE->R5 Keyword->Vu->Sq} {P:SE->Prop} (k:∀a b c d,f a b c d=R8->P (.Call a b c d)):dM f e=R8->P e:=by induction e using SH<;>first|exact k _ _ _ _|exact bc
noncomputable def oV(f:SE->R5 VI->Xk->Vu->Sq)(e:SE):Bool:=by
 induction e using SH with
 |ListComp x y z w=>exact f x y z w
 |_=>exact Sj
@[elab_as_elim] theorem iT {f:SE->R5 VI->Xk->Vu->Sq} {P:SE->Prop} (k:∀a b c d,f a b c d=R8->P (.ListComp a b c d)):oV f e=R8->P e:=by induction e using SH<;>first|exact k _ _ _ _|exact bc
noncomputable def rY(f:Sh SE->Vu->Sq)(e:T1):Bool:=by
 induction e using Tv with
 |Return x y=>exact f x y
 |_=>exact Sj
@[elab_as_elim] theorem nP {f:Sh SE->Vu->Sq} {P:T1->Prop} (k:∀a b,f a b=R8->P (.Return a b)) {e:T1}:rY f e=R8->P e:=by induction e using Tv<;>first|exact k _ _|exact bc
noncomputable def lX(f:SE->Vu->Sq)(e:T1):Bool:=by
 induction e using Tv with
 |Expr x y=>exact f x y
 |_=>exact Sj
@[elab_as_elim] theorem jd {f:SE->Vu->Sq} {P:T1->Prop} (k:∀a b,f a b=R8->P (.Expr a b)) {e:T1}:lX f e=R8->P e:=by induction e using Tv<;>first|exact k _ _|exact bc
noncomputable def dc(f:R5 SE->SE->Vu->Sq)(e:T1):Bool:=by
 induction e using Tv with
 |Assign x y z=>exact f x y z
 |_=>exact Sj
@[elab_as_elim] theorem cC {f:R5 SE->SE->Vu->Sq} {P:T1->Prop} (k:∀a b c,f a b c=R8->P (.Assign a b c)) {e:T1}:dc f e=R8->P e:=by induction e using Tv<;>first|exact k _ _ _|exact bc
noncomputable def rS(f:SE->V9->SE->Vu->Sq)(e:T1):Bool:=by
 induction e using Tv with
 |AugAssign x y z w=>exact f x y z w
 |_=>exact Sj
@[elab_as_elim] theorem uM {f:SE->V9->SE->Vu->Sq} {P:T1->Prop} (k:∀a b c d,f a b c d=R8->P (.AugAssign a b c d)) {e:T1}:rS f e=R8->P e:=by induction e using Tv<;>first|exact k _ _ _ _|exact bc
noncomputable def L7(f:SE->R5 T1->R5 T1->Vu->Sq)(e:T1):Bool:=by
 induction e using Tv with
 |If x y z w=>exact f x y z w
 |_=>exact Sj
@[elab_as_elim] theorem H5 {f:SE->R5 T1->R5 T1->Vu->Sq} {P:T1->Prop} (k:∀a b c d,f a b c d=R8->P (.If a b c d)) {e:T1}:L7 f e=R8->P e:=by induction e using Tv<;>first|exact k _ _ _ _|exact bc
noncomputable def uG(f:SE->R5 T1->R5 T1->Vu->Sq)(e:T1):Bool:=by
 induction e using Tv with
 |While x y z w=>exact f x y z w
 |_=>exact Sj
@[elab_as_elim] theorem s9 {f:SE->R5 T1->R5 T1->Vu->Sq} {P:T1->Prop} (k:∀a b c d,f a b c d=R8->P (.While a b c d)) {e:T1}:uG f e=R8->P e:=by induction e using Tv<;>first|exact k _ _ _ _|exact bc
noncomputable def G6(f:SE->SE->R5 T1->R5 T1->Vu->Sq)(e:T1):Bool:=by
 induction e using Tv with
 |For x y z w u=>exact f x y z w u
 |_=>exact Sj
@[elab_as_elim] theorem FZ {f:SE->SE->R5 T1->R5 T1->Vu->Sq} {P:T1->Prop} (k:∀a b c d e,f a b c d e=R8->P (.For a b c d e)) {e:T1}:G6 f e=R8->P e:=by induction e using Tv<;>first|exact k _ _ _ _ _|exact bc
noncomputable def onContinue(f:Vu->Sq)(e:T1):Bool:=by
 induction e using Tv with
 |Continue x=>exact f x
 |_=>exact Sj
@[elab_as_elim] theorem v7 {f:Vu->Sq} {P:T1->Prop} (k:∀a,f a=R8->P (.Continue a)) {e:T1}:onContinue f e=R8->P e:=by induction e using Tv<;>first|exact k _|exact bc
noncomputable def KU(b:Sq)(e:X0):Bool:=decide (e=.Lt)&&b
@[elab_as_elim] theorem JF {P:X0->Prop} (k:b=R8->P .Lt) {e:X0}:KU b e=R8->P e:=ae λh hb=>Sa h▸k hb
noncomputable def HA(b:Sq)(e:X0):Bool:=decide (e=.LtE)&&b
@[elab_as_elim] theorem EK {P:X0->Prop} (k:b=R8->P .LtE) {e:X0}:HA b e=R8->P e:=ae λh hb=>Sa h▸k hb
noncomputable def z8(b:Sq)(e:X0):Bool:=decide (e=.NotEq)&&b
@[elab_as_elim] theorem B2 {P:X0->Prop} (k:b=R8->P .NotEq) {e:X0}:z8 b e=R8->P e:=ae λh hb=>Sa h▸k hb
noncomputable def GW(b:Sq)(e:Xx):Bool:=decide (e=.Not)&&b
@[elab_as_elim] theorem yj {P:Xx->Prop} (k:b=R8->P .Not) {e:Xx}:GW b e=R8->P e:=ae λh hb=>Sa h▸k hb
noncomputable def CE(b:Sq)(e:Xx):Bool:=decide (e=.USub)&&b
@[elab_as_elim] theorem vN {P:Xx->Prop} (k:b=R8->P .USub) {e:Xx}:CE b e=R8->P e:=ae λh hb=>Sa h▸k hb
noncomputable def GZ(b:Sq)(e:X1):Bool:=decide (e=.And)&&b
@[elab_as_elim] theorem xC {P:X1->Prop} (k:b=R8->P .And) {e:X1}:GZ b e=R8->P e:=ae λh hb=>Sa h▸k hb
noncomputable def LW(b:Sq)(e:X1):Bool:=decide (e=.Or)&&b
@[elab_as_elim] theorem zX {P:X1->Prop} (k:b=R8->P .Or) {e:X1}:LW b e=R8->P e:=ae λh hb=>Sa h▸k hb
noncomputable def Cy(b:Sq)(e:V9):Bool:=decide (e=.Mult)&&b
@[elab_as_elim] theorem Cz {P:V9->Prop} (k:b=R8->P .Mult) {e:V9}:Cy b e=R8->P e:=ae λh hb=>Sa h▸k hb
noncomputable def HI(b:Sq)(e:V9):Bool:=decide (e=.Sub)&&b
@[elab_as_elim] theorem F6 {P:V9->Prop} (k:b=R8->P .Sub) {e:V9}:HI b e=R8->P e:=ae λh hb=>Sa h▸k hb
@[elab_as_elim] theorem gZ {P:α->Prop} {a b:α} [X7 (a=b)] (k:P b) (h:decide (a=b)=R8):P a:=Sa h▸k
noncomputable def aJ{α:Type}(b:Sq)(l:R5 α):Bool:=Sp l b λu0 u1=>Sj
@[elab_as_elim] theorem ao {P:R5 α->Prop} (k:b=R8->P []) {e:R5 α}:aJ b e=R8->P e:=by
 induction e using Sp
 ·exact k
 ·exact bc
noncomputable def aV{α:Type}(f:α->R5 α->Sq)(l:R5 α):Bool:=Sp l Sj f
@[elab_as_elim] theorem az {f:α->R5 α->Sq} {P:R5 α->Prop} (k:∀x l,f x l=R8->P (x::l)) {e:R5 α}:aV f e=R8->P e:=by
 induction e using Sp
 ·exact bc
 ·exact k _ _
noncomputable def cM{α:Type}(b:Sq)(o:Sh α):Bool:=Sl o b λu0=>Sj
@[elab_as_elim] theorem fF {P:Sh α->Prop} (k:b=R8->P Sd) {e:Sh α}:cM b e=R8->P e:=by
 induction e using Sl
 ·exact k
 ·exact bc
noncomputable def BH(f:SE->SE->R5 SE->SK->Sq):VI->Sq|⟨a,b,c,d⟩=>f a b c d
@[elab_as_elim] theorem rj {f:SE->SE->R5 SE->SK->Sq} {P:VI->Prop} (k:∀a b c d,f a b c d=R8->P ⟨a,b,c,d⟩) {e:VI}:BH f e=R8->P e:=by
 cases e;exact k _ _ _ _
noncomputable def He(b:Sq)(i:SK):Bool:=decide (i=0)&&b
@[elab_as_elim] theorem sY {P:SK->Prop} (k:b=R8->P 0) {e:SK}:He b e=R8->P e:=ae λh hb=>Sa h▸k hb
theorem jX{a:Sq}(h:(a&&b)=R8):a=R8/\b=true:=Bool.and_eq_true_iff.mp h
def oB(f:SS->R5 SE->Sq)(e:SE):Bool:=dM (λg es kw O=>bS (λn O=>aJ (f n es) kw) g) e
@[elab_as_elim] theorem jQ {f:SS->R5 SE->Sq} {P:SE->Prop} (k:∀n q es p,f n es=R8->P (.Call (.Name n q) es [] p)):oB f e=R8->P e:=
 cF λu0 es u1 p=>aZ λn q=>ao<|k n q es p
def GH(f:SE->Sq)(l:R5 SE):Bool:=aV (λx r=>aJ (f x) r) l
@[elab_as_elim] theorem xT {f:SE->Sq} {P:R5 SE->Prop} (k:∀x,f x=R8->P [x]) {l:R5 SE}:GH f l=R8->P l:=az λx O=>ao<|k x
def ON(f:SE->SE->Sq)(l:R5 SE):Bool:=aV (λx r=>GH (f x) r) l
@[elab_as_elim] theorem Kr {f:SE->SE->Sq} {P:R5 SE->Prop} (k:∀x y,f x y=R8->P [x,y]) {l:R5 SE}:ON f l=R8->P l:=az λx O=>xT<|k x
noncomputable def nM(sc:Xk):Bool:=decide (sc.kind=.function)&& !sc.isGenerator&& !sc.isCoroutine&&decide ((sc.names.map (·.1)).Nodup)
def gJ(ks:R5 (SS×VK))(cap:R5 (Sh Sf)):R5 (SS×Tq)->Bool:=S8 (aJ R8)
 (λo O ih=>aV λp r=>Sl o ((decide (p.2=.local)||decide (p.2=.globalImplicit))&&ih r) λj=>decide (p.2=.free)&&eD (λq=>decide (q.1=p.1)&&(decide (q.2=.c)||decide (q.2=.r))) ks[j]? &&ih r) cap
def dX(ks:R5 (SS×VK))(t:Tg):SE->Bool:=Tg.rec (motive_1:=λu0=>SE->Sq) (motive_2:=λu0=>R5 SE->Sq) (λi e=>bS (λx O=>eD (λp=>decide (p.1=x)&&(decide (p.2=.l)||decide (p.2=.c))) ks[i]?) e) (λu0 ih e=>iD (λes O u1=>ih es) e) (aJ R8) (λu0 u1 a b=>aV λe es=>du e&&a e&&b es) t
def Dt(ks:R5 (SS×VK))(t:R5 Tg):R5 SE->Bool:=Tg.rec_1 (motive_1:=λu0=>SE->Sq) (motive_2:=λu0=>R5 SE->Sq) (λi e=>bS (λx O=>eD (λp=>decide (p.1=x)&&(decide (p.2=.l)||decide (p.2=.c))) ks[i]?) e) (λu0 ih e=>iD (λes O u1=>ih es) e) (aJ R8) (λu0 u1 a b=>aV λe es=>du e&&a e&&b es) t
def baseOk(e:SE):Bool:= !dM (λg es kw O=>bS (λx O=>aJ (aJ (x==("super":SS)) kw) es) g) e
structure Ck where
 e:R5 (SS×VK)->ME->SE->Sq
 l:R5 (SS×VK)->R5 ME->R5 SE->Sq
 s:R5 (SS×VK)->Src->SE->Sq
section
variable(tb:gh)
def Ny(C:Ck)(ks:R5 (SS×VK))(m:ME)(e:SE):Bool:=ME.casesOn (motive_1:=λu0=>Sq) m
  (λv=>t5 (λc y1 y2=>Li v c) e)
  (λi=>bS (λx y3=>cA ks i x) e)
  (λi=>bS (λx y4=>jY tb ks i x) e)
  (λl=>iD (λes y5 y6=>C.l ks l es&&decide (l.length<1000)) e)
  (λl=>jx (λes y7=>C.l ks l es&&decide (l.length<1000)) e)
  (sP (λy9 y10 y8=>aJ (aJ (R8) y10) y9) e)
  (λo a b=>uB (λl op r y11=>decide (op=wD o)&&C.e ks a l&&C.e ks b r) e)
  (λa=>qL (λy13 x y12=>GW (C.e ks a x) y13) e)
  (λa=>qL (λy15 x y14=>CE (C.e ks a x) y15) e)
  (λl=>rX (λy17 es y16=>GZ (C.l ks l es) y17) e)
  (λl=>rX (λy19 es y18=>LW (C.l ks l es) y19) e)
  (λc a b=>Ak (λt x y y20=>C.e ks c t&&C.e ks a x&&C.e ks b y) e)
  (λo a b=>kN (λl y22 y23 y21=>aV (λop y24=>aJ (aV (λr y25=>aJ (decide (op=wy o)&&du r&&C.e ks a l&&C.e ks b r) y25) y23) y24) y22) e)
  (λa b c=>kN (λl y27 y28 y26=>aV (λy29 y30=>KU (aV (λy31 y32=>HA (aJ (aV (λm y33=>aV (λr y34=>aJ (du m&&du r&&C.e ks a l&&C.e ks b m&&C.e ks c r) y34) y33) y28) y32) y31) y30) y29) y27) e)
  (λa i=>eJ (λx y y35=>du y&&C.e ks a x&&C.e ks i y) e)
  (λa i=>eJ (λx y38 y37=>zx (λy39 y40 y41 y36=>cM (eD (λy=>cM (C.e ks a x&&C.e ks i y) y41) y40) y39) y38) e)
  (λa x=>bQ (λv y y42=>baseOk v&&decide (tb.nm[x]? =KX y)&&C.e ks a v) e)
  (λg l=>dM (λy45 es y46 y44=>bS (λf y43=>aJ (jY tb ks g f&&C.l ks l es) y46) y45) e)
  (λg l=>dM (λy49 es y50 y48=>bS (λf y47=>aJ (jY tb ks g f&&C.l ks l es) y50) y49) e)
  (λg l=>dM (λy53 es y54 y52=>bS (λf y51=>aJ (jY tb ks g f&&decide (f=("BorrowFault":SS))&&C.l ks l es) y54) y53) e)
  (λb l=>dM (λy57 es y58 y56=>bS (λf y55=>aJ (decide (f=vE b)&&eP ks f&&C.l ks l es) y58) y57) e)
  (λi l=>dM (λy61 es y62 y60=>bS (λf y59=>aJ (cA ks i f&&C.l ks l es) y62) y61) e)
  (λa x l=>dM (λy63 es y64 pos=>bQ (λv y ap=>aJ (baseOk v&&decide (tb.nm[x]? =KX y)&&(ap.endLine==pos.line)&&C.e ks a v&&C.l ks l es&&decide (l.length<29)) y64) y63) e)
  (λa l=>dM (λy65 es y66 pos=>bQ (λv y ap=>aJ (baseOk v&&decide (y=("get":SS))&&(ap.endLine==pos.line)&&C.e ks a v&&C.l ks l es) y66) y65) e)
  (λa b=>dM (λy71 y72 y73 y70=>bS (λf y67=>aV (λy74 y75=>dM (λy76 y77 y78 y69=>bS (λg y68=>aV (λx y79=>aV (λy y80=>aJ (aJ (aJ (aJ (decide (f=("dict":SS))&&decide (g=("zip":SS))&&eP ks f&&eP ks g&&C.l ks [a,b] [x,y]) y73) y75) y78) y80) y79) y77) y76) y74) y72) y71) e)
  (λcap t s ifs elt=>oV (λel y82 sc y81=>aV (λy83 y84=>BH (λtg it cs y85=>He (aJ (gJ ks cap sc.names&&dX (bJ sc.names) t tg&&iJ s tg&&C.s ks s it&&C.l (bJ sc.names) ifs cs&&C.e (bJ sc.names) elt el&&nM sc) y84) y85) y83) y82) e)
  (λcap t s t2 s2 elt=>oV (λel y87 sc y86=>aV (λy88 y89=>BH (λtg it y90 y91=>aJ (He (aV (λy92 y93=>BH (λfE it2 y94 y95=>aJ (He (aJ (gJ ks cap sc.names&&dX (bJ sc.names) t tg&&iJ s tg&&C.s ks s it&&dX (bJ sc.names) t2 fE&&iJ s2 fE&&oP s&&oP s2&&C.s (bJ sc.names) s2 it2&&C.e (bJ sc.names) elt el&&nM sc) y93) y95) y94) y92) y89) y91) y90) y88) y87) e)
  (λneg kk o x=>kN (λl y99 y100 y98=>aV (λop y101=>aJ (aV (λy102 y103=>bQ (λy104 a y97=>bS (λy y96=>aJ (decide (op=if neg then .NotIn else .In)&&cA ks o y&&decide (tb.nm[x]? =KX a)&&C.e ks kk l) y103) y104) y102) y100) y101) y99) e)
  (λo x kk=>eJ (λy108 sl y107=>bQ (λy109 a y106=>bS (λy y105=>cA ks o y&&decide (tb.nm[x]? =KX a)&&du sl&&C.e ks kk sl) y109) y108) e)
  (λo x=>dM (λy114 y115 y116 y113=>bS (λf y110=>aV (λy117 y118=>bQ (λy119 a y112=>bS (λy y111=>aJ (aJ (decide (f=("len":SS))&&eP ks f&&cA ks o y&&decide (tb.nm[x]? =KX a)) y116) y118) y119) y117) y115) y114) e)
  Sj
def KC(C:Ck)(ks:R5 (SS×VK))(s:Src)(e:SE):Bool:=Src.casesOn (motive_2:=λu0=>Sq) s
  (λa=>du e&&C.e ks a e)
  (λa=>oB (λf es=>GH (λx=>decide (f=("range":SS))&&eP ks f&&du x&&C.e ks a x) es) e)
  (λa=>oB (λf es=>GH (λx=>decide (f=("enumerate":SS))&&eP ks f&&du x&&C.e ks a x) es) e)
  (λa b=>oB (λf es=>ON (λx y=>decide (f=("zip":SS))&&eP ks f&&C.l ks [a,b] [x,y]) es) e)
  (λg l=>oB (λf es=>jY tb ks g f&&C.l ks l es) e)
def GO(f:ME->R5 ME->SE->R5 SE->Sq)(l:R5 ME)(es:R5 SE):Bool:=Sp l (aJ R8 es) λm l=>aV (f m l) es
def ck(k:Sf):Ck:=VA ⟨λu0 u1 u2=>Sj,λu0=>GO λu0 u1 u2 u3=>Sj,λu0 u1 u2=>Sj⟩
 (λu0 C=>⟨Ny tb C,λks=>GO λm l e es=>du e&&C.e ks m e&&C.l ks l es,KC tb C⟩) k
def aK(k:Sf)(ks:R5 (SS×VK))(m:ME)(e:SE):Bool:=(ck tb k).e ks m e
def cP(k:Sf)(ks:R5 (SS×VK))(l:R5 ME)(es:R5 SE):Bool:=(ck tb k).l ks l es
def ir(k:Sf)(ks:R5 (SS×VK))(s:Src)(e:SE):Bool:=(ck tb k).s ks s e
variable{tb}{P:R5 SE->Prop}
@[elab_as_elim] theorem fN (h:P []) {es:R5 SE}:cP tb k ks [] es=R8->P es:=by
 induction k using SW<;>exact ao λu0=>h
@[elab_as_elim] theorem dQ {m:ME} {l:R5 ME} {es:R5 SE} (h:∀k' e es,k=k'+1->du e=R8->aK tb k' ks m e=R8->cP tb k' ks l es=R8->P (e::es)):cP tb k ks (m::l) es=R8->P es:=by
 induction k using SW with
 |zero=>exact az λu0 u1=>bc
 |succ k=>exact az λe es=>ae λa=>ae (λa b c=>h k e es rfl a b c) a
end
end
structure bU(S:bf)(T:cU)(P:PD)(tb:gh):Prop where
 vP:∀f,∃a,S.bK f=.ref a
 inj:∀i j,S.nm i=S.nm j->i=j
 iq:∀a o,T.K.lookup a=KX o->T.base.get? a=KX o/\a≠T.tp
 Eg:∀(c:Sf) (d:rO),P.cls[c]? =KX d->XU T.K (S.cls c) ""=R8/\VX T.K (S.cls c)=R8
 cat:∀(c:Sf) (d:rO) (x:Sf) (y:SS),P.cls[c]? =KX d->tb.nm[x]? =KX y->match fY x d.meths with
  |some f=>TB T.K (.ref<|S.cls c) y=KX (KX<|S.bK f)/\isFn T.K (S.bK f)=R8/\Xj T.K (S.bK f) "__get__"=KX (KX<|.builtin "function.__get__")/\Z9 T.K (S.bK f)=KX Sj/\copiedNames.contains y=Sj
  |none=>TB T.K (.ref<|S.cls c) y=KX Sd
 cst:∀(c:Sf) (d:rO),P.cls[c]? =KX d->TB T.K (.ref<|S.cls c) "__setattr__"=KX (KX<|.builtin "object.__setattr__")/\YZ T.K (S.cls c)=R8/\∀(x:Sf) (y:SS),tb.nm[x]? =KX y->fY x d.meths=Sd->aaa T.K (S.cls c) y=KX Sd
 O3:∀(c:Sf) (d:rO),P.cls[c]? =KX d->makesIn T.K (S.cls c)=R8/\TB T.K (.ref<|S.cls c) "__init__"=KX (KX<|S.bK d.init)/\isFn T.K (S.bK d.init)=R8
 xw:∀f,ZA T.K (S.bK f)=R8/\∀a,S.bK f=.ref a->fnIn T.K a=R8
 GC:∀c,ZA T.K (.ref<|S.cls c)=R8
 OW:ZA T.K (.ref S.xc)=R8
 bx:∀x:SS,x="range"\/x="enumerate"\/x="zip"\/x="dict"->T.mg x=Sd/\T.mb x=KX (.type x.toString)
 Pz:(TB T.K (.ref S.xc) "__getattribute__"=KX (KX<|.builtin "BaseException.__getattribute__")/\TB T.K (.ref S.xc) "__getattr__"=KX Sd/\mroIn T.K S.xc (.type "BaseException")=KX R8)/\VX T.K S.xc=R8/\TB T.K (.ref S.xc) "kind"=KX Sd/\tb.nm[P.kind]? =KX ("kind":SS)
 gl:T.base.Ns TA T.mg
 gl':TA≠T.tp
 bl:T.base.Ns Xw T.mb
 bl':Xw≠T.tp
 lim:T.base.NoLimit
 lim':cStatics≠T.tp
 bW:∀W,dU S T W->∀(g:Sf) (x:AV) (y:SS),P.bW[g]? =KX x->tb.gn[g]? =KX y->∃v,T.mg y=KX v/\RV S W v x
 bi:∀b,T.mg (vE b)=Sd/\T.mb (vE b)=KX (vm b)
 nm:∀(i:Sf) (x:SS),tb.nm[i]? =KX x->S.nm i=x
 zY:T.tc=S.tc
 Cr:CodeHd T.base T.tc T.tp
 bmod:T.base.BuiltinsAt T.mg T.tp
theorem dU.ns{S:bf}{T:cU}(ok:dU S T W){m:SS->Sh Se}(h:T.base.Ns a m)(ne:a≠T.tp):W.h.Ns a m:=
 h.elim λo h=>h.elim λes h=>h.elim λep h=>⟨o,es,ep,(ok.base a o h.1 ne).1,h.2⟩
theorem dU.lim{S:bf}{T:cU}(ok:dU S T W)(h:T.base.NoLimit)(ne:cStatics≠T.tp):W.h.NoLimit:=
 h.elim λmc h=>⟨mc,ok.ns h.1 ne,h.2⟩
theorem bU.bK{S:bf}{T:cU}{P:PD}{tb:gh}(st:bU S T P tb)(f:Sf):(S.bK f==.none)=false:=(st.vP f).elim λu0 e=>e▸rfl
theorem dU.iq{S:bf}{T:cU}{P:PD}{tb:gh}(st:bU S T P tb)(ok:dU S T W):T.K.In W.h:=λa o e=>have q:=st.iq a o e;(ok.base a o q.1 q.2).1
theorem RV.handed{S:bf}{T:cU}{P:PD}{tb:gh}(st:bU S T P tb){x:AV}(r:RV S W v x):ZC v=true:=
 RV.shape (λu0=>rfl) (λu0 u1=>rfl) (λu0 u1=>rfl) (λu0=>rfl) (λf=>(st.vP f).elim λu0 e=>e▸rfl) r λu0=>rfl
noncomputable def cZ(s:Sn)(W:Wd)(Φ:Wd->Prop)(Q:Sn->Prop):Prop:=
 ∀s' W',s'.heap=W'.h->s'.gens=s.gens->s'.os=s.os->W.Fk W'->Φ W'->Q s'
theorem cZ.after{Q:Sn->Prop}(h:cZ s W Φ Q)(g:ai.gens=s.gens)(o:ai.os=s.os)(go:W.Fk aj):cZ ai aj Φ Q:=
 λs' W' a b c d e=>h s' W' a (b.trans g) (c.trans o) (go.trans d) e
theorem cZ.here{Q:Sn->Prop}(h:cZ s W Φ Q)(hs:s.heap=W.h)(h1:s'.heap=s.heap)(h2:s'.gens=s.gens)(h3:s'.os=s.os)(hΦ:Φ W):Q s':=
 h s' W (h1.trans hs) h2 h3 (.refl W) hΦ
theorem cZ.mono{Q:Sn->Prop}(h:cZ s W Φ Q)(f:∀W',W.Fk W'->Φ' W'->Φ W'):cZ s W Φ' Q:=λs' W' a b c d e=>h s' W' a b c d<|f W' d e
theorem cZ.same{Q:Sn->Prop}(h:cZ s W Φ Q)(hs:s.heap=W.h)(hΦ:Φ W):fq s Q:=λu0 h1 h2 h3=>h.here hs h1 h2 h3 hΦ
theorem cZ.grows{Q:Sn->Prop}(h:cZ s W Φ Q):Grows s W Φ Q:=
 λs' W' a b c m e=>h s' W' a b c (m.fk id (λu0=>id) λu0 u1=>id) e
def ve(s:Sn)(W:Wd)(Φ:Se->Wd->Prop)(Q:Se->Sn->Prop):Prop:=∀q,cZ s W (Φ q) (Q q)
theorem ve.after{Φ:Se->Wd->Prop}(h:ve s W Φ Q)(g:ai.gens=s.gens)(o:ai.os=s.os)(go:W.Fk aj):ve ai aj Φ Q:=
 λq=>(h q).after g o go
theorem Ends.here{Q:Sn->Prop}(h:Ends s W Φ Q)(hs:s.heap=W.h)(h1:s'.heap=s.heap)(h2:s'.gens=s.gens)(h3:s'.os=s.os)(hΦ:Φ W):Q s':=
 h s' W (h1.trans hs) h2 h3 (.refl W) hΦ
theorem Ends.mono{Q:Sn->Prop}(h:Ends s W Φ Q)(f:∀W',W.Go W'->Φ' W'->Φ W'):Ends s W Φ' Q:=λs' W' a b c d e=>h s' W' a b c d<|f W' d e
theorem Grows.mono{Q:Sn->Prop}(h:Grows s W Φ Q)(f:∀W',W.Mv iz W'->Φ' W'->Φ W'):Grows s W Φ' Q:=λs' W' a b c d e=>h s' W' a b c d<|f W' d e
section
variable(S:bf)(T:cU)(P:PD)(tb:gh)
def bH(r:Rec)(n:Sf):Prop:=∀{k:Sf} {ks:R5 (SS×VK)} {m:ME} {e:SE} {A:Vj} {s:Sn} {W:Wd} {env:Xz} {loc:Loc} {H:Hp} {v:AV} {H':Hp} {Q:Se->Sn->Prop} {E:Se->Sn->Prop},
 aK tb k ks m e=R8->aN A n->s.heap=W.h->St S T W env ks loc H->r.e m loc H=KX (v,H')->
 ve s W (λq W'=>St S T W' env ks loc H'/\RV S W' q v) Q->Sm (md S) A (TN e env) Q E s
def iG(r:Rec)(n:Sf):Prop:=∀{k:Sf} {ks:R5 (SS×VK)} {m:ME} {e:SE} {A:Vj} {s:Sn} {W:Wd} {env:Xz} {loc:Loc} {H:Hp} {b:Sq} {H':Hp} {Q:Sq->Sn->Prop} {E:Se->Sn->Prop},
 aK tb k ks m e=R8->aN A n->s.heap=W.h->St S T W env ks loc H->r.t m loc H=KX (b,H')->
 cZ s W (λW'=>St S T W' env ks loc H') (Q b)->Sm (md S) A (Wi e env<|TN e env) Q E s
def pj(r:Rec)(n:Sf):Prop:=∀{f:Sf} {vs:R5 AV} {us:R5 Se} {A:Vj} {s:Sn} {W:Wd} {H:Hp} {v:AV} {H':Hp} {Q:Se->Sn->Prop} {E:Se->Sn->Prop},
 aN A n->s.heap=W.h->dU S T W->HR S W H->aA S W us vs->r.f f vs H=KX (v,H')->
 ve s W (λq W'=>W.Fk W'/\dU S T W'/\HR S W' H'/\RV S W' q v) Q->Um (md S) A (.call (S.bK f) ⟨us,[]⟩) (wants Q E) s
def iv(r:Rec)(n:Sf):Prop:=∀{k:Sf} {ks:R5 (SS×VK)} {l:R5 ME} {es:R5 SE} {A:Vj} {s:Sn} {W:Wd} {env:Xz} {loc:Loc} {H:Hp} {vs:R5 AV} {H':Hp} {Q:R5 Se->Sn->Prop} {E:Se->Sn->Prop} {pos:Vu},
 cP tb k ks l es=R8->aN A n->s.heap=W.h->St S T W env ks loc H->cq r l loc H=KX (vs,H')->
 (∀us,cZ s W (λW'=>St S T W' env ks loc H'/\aA S W' us vs)<|Q us)->Sm (md S) A (spliced<|Ww pos<|UY es env) Q E s
end
theorem eI{es:R5 SE}:du e=R8->UY (e::es) env=(Sj,TN e env)::UY es env:=by
 induction e using SH<;>first|exact λu0=>rfl|exact bc
section
variable{S:bf}{T:cU}{P:PD}{tb:gh}
theorem nQ(he:bH S T tb r n):iv S T tb r n:=by
 intro k ks l
 induction l generalizing k with
 |nil=>
  intro es A s W env loc H vs H' Q E pos hc hr hs st h g;exact fN (To<|(g []).here hs rfl rfl rfl (gG ⟨st,aA.nil⟩ h)) hc
 |cons m l ih=>
  intro es A s W env loc H vs H' Q E pos hc hr hs st h g;refine dQ (λk' e es O c1 c2 c3=>aC (λv H1 h1 h=>aC (λvs' H2 h2 h=> ?_) h) h) hc;refine Tc (he c2 hr hs st h1 λq s1 W1 a1 a2 a3 a4 a5=>ih c3 hr a1 a5.1 h2 λus=> ?_)<|eI c1;exact((g (q::us)).after a2 a3 a4).mono λW2 b1 b2=>gG ⟨b2.1,aA.cons (a5.2.mono b1.toLe) b2.2⟩ h
theorem FR.lookup(F:FR S W env ks loc){i:Sf}{x:SS}{k:VK}(h:ks[i]? =KX (x,k))(hl:loc[i]? =KX sv):
  uc env.scope x k/\∃m,W.h.Ns env.locals m/\iB S W env m i x sv k:=
 ⟨F.kn i x k h,rK.casesOn F.sl λm hm hs=>⟨m,hm,hs i x k sv h hl⟩⟩
theorem SV.wi{x y:AV}(h:SV.fr x=.fr y):x=y:=R6 (λs:SV=>s.uF x id) h
theorem eR{i:Sf}{x:SS}{v:AV}(hs:s.heap=W.h)(F:FR S W env ks loc)
  (hc:cA ks i x=R8) (hl:loc[i]? =KX (.fr v)) (g:∀q,RV S W q v->Q q s):Sm (md S) A (aaM env x) Q E s:=
 jr (λk hk c2 O c4=>have q:=F.lookup hk hl;q.2.elim λm q2=>
  VK.casesOn k
   (λu0 kn sl=>n7.casesOn sl (λe=>nomatch e) λq a b=>aaG F.kind kn (hs▸q2.1) a<|g q b)
   (λu0 kn sl=>n8.casesOn sl (λu0 u1 u2 u3 u4 u5 e u6=>nomatch e) λc o q y a O e p1 p2 p3=>aa5 F.kind kn a ⟨o,hs▸e,p2⟩<|g q<|SV.wi p1▸p3)
   (λu0 kn sl=>rQ.casesOn sl (λe=>nomatch e) λc o q y a O e p1 p2 p3=>have q:=g q (SV.wi p1▸p3);kn.elim (λkn=>aa5 F.kind kn a ⟨o,hs▸e,p2⟩ q) λkn=>wpAny_loadName_free F.kind kn a ⟨o,hs▸e,p2⟩ q c4)
   (λc=>TL rfl c) c2 q.1 q2.2) hc
theorem eZ{i:Sf}{x:SS}(hc:cA ks i x=R8):(x==("__debug__":SS))=false:=jr (λu0 u1 u2 h u3=>h) hc
theorem FR.eP(F:FR S W env ks loc){x:SS}(hc:eP ks x=R8):env.kindOf x=KX .globalImplicit/\(x==("__debug__":SS))=false:=
 ae (λh1 h2=>⟨(List.any_eq_true.mp h1).elim λp q=>(List.mem_iff_getElem?.mp q.1).elim λi hi=>ae (λa b=>F.kn i x .g<|hi.trans<|R6 KX<|Prod.ext (Sa a) (Sa b)) q.2,eO h2⟩) hc
theorem qy{st:bU S T P tb}{gi:Sf}{x:SS}{v:AV}(hs:s.heap=W.h)(ok:dU S T W)(F:FR S W env ks loc)
  (hc:jY tb ks gi x=R8) (hl:P.bW[gi]? =KX v) (g:∀q,RV S W q v->Q q s):Sm (md S) A (TN (.Name x p) env) Q E s:=
 ae (λh1 h2=>have k:=F.eP h2;(st.bW W ok gi v x hl<|Sa h1).elim λq e=>XZ F.kind k.1 (loadGlobal_global (F.gl▸hs▸ok.ns st.gl st.gl') e.1<|g q e.2) k.2) hc
theorem kM{st:bU S T P tb}{x:SS}(hs:s.heap=W.h)(ok:dU S T W)(F:FR S W env ks loc)
  (hc:eP ks x=R8) (h1:T.mg x=Sd) (h2:T.mb x=KX v) (g:Q v s):Sm (md S) A (TN (.Name x p) env) Q E s:=
 have k:=F.eP hc;XZ F.kind k.1 (loadGlobal_builtin (F.gl▸hs▸ok.ns st.gl st.gl') h1 (F.bl▸hs▸ok.ns st.bl st.bl') h2 g) k.2
theorem ud{v:AV}{c:YP}(hc:Li v c=R8)(g:∀q,RV S W q v->fq s (Q q)):
  Sm (md S) A (TN (.Constant c k pos) env) Q E s:=by
 revert g hc
 let Z:AV->YP->Prop:=λv c=>(∀q,RV S W q v->fq s (Q q))->Sm (md S) A (TN (.Constant c k pos) env) Q E s
 exact λhc=>AV.kP (P:=λv=>Z v c) (E5 λg=>wpAny_Constant_none<|g _ .none s rfl rfl rfl) hc λhc=>
  AV.gM (λb=>FT λx h=>eq_of_beq h▸λg=>wpAny_Constant_bool<|g _ .bool s rfl rfl rfl) hc λhc=>
  AV.dw (λb=>JP λx h=>Sa h▸λg=>wpAny_Constant_int<|g _ .int _ rfl rfl rfl) hc λhc=>
  AV.i9 (λb=>I7 λx h=>Sa h▸λg=>wpAny_Constant_str<|g _ .str _ rfl rfl rfl) hc bc
end
theorem aN.nH(r:aN A n):A.units+200<cLine:=Sb (UO (S0 _ _) (by decide)) r.un
section
variable{v:AV}
abbrev EG(S:bf)(T:cU)(env:Xz)(ks:R5 (SS×VK))(loc:Loc)(H':Hp)(v:AV)(s:Sn)(W:Wd)(Q:Se->Sn->Prop):Prop:=ve s W (λq W'=>St S T W' env ks loc H'/\RV S W' q v) Q
theorem EG.grow(g:EG S T env ks loc H' v s W Q)(sx:St S T W env ks loc H')(q:Se):Grows s W (λW'=>RV S W' q v) (Q q):=
 (g q).grows.mono λu0 m x=>⟨sx.mv m<|λu0=>id,x⟩
theorem EG.same(g:EG S T env ks loc H' v s W Q)(hs:s.heap=W.h)(sx:St S T W env ks loc H')(x:RV S W q v):fq s (Q q):=(g q).same hs ⟨sx,x⟩
theorem EG.after(g:EG S T env ks loc H' v s W Q)(a:ai.gens=s.gens)(b:ai.os=s.os)(go:W.Fk aj):EG S T env ks loc H' v ai aj Q:=ve.after g a b go
theorem eg(he:bH S T tb r n){a:ME}{x:SE}{u:AV}(rm:aN A n)(hs:s.heap=W.h)(sx:St S T W env ks loc H)(ca:aK tb k ks a x=R8)(h1:r.e a loc H=KX (u,H1))
  (g:∀q ai aj,ai.heap=aj.h->ai.gens=s.gens->ai.os=s.os->W.Fk aj->St S T aj env ks loc H1->RV S aj q u->G q ai):Sm (md S) A (TN x env) G E s:=
 he ca rm hs sx h1 λq ai aj a1 a2 a3 a4 a5=>g q ai aj a1 a2 a3 a4 a5.1 a5.2
theorem Dd(he:bH S T tb r n){a b:ME}{x:SE}{u w:AV}{G:Se->Se->Sn->Prop}(rm:aN A n)(hs:s.heap=W.h)(sx:St S T W env ks loc H)(ca:aK tb k ks a x=R8)(cb:aK tb k ks b y=R8)
  (h1:r.e a loc H=KX (u,H1)) (h2:r.e b loc H1=KX (w,H2))
  (g:∀p q ai aj,ai.heap=aj.h->ai.gens=s.gens->ai.os=s.os->W.Fk aj->St S T aj env ks loc H2->RV S aj p u->RV S aj q w->G p q ai):
  Sm (md S) A (TN x env) (λp ai=>Sm (md S) A (TN y env) (λq aX=>G p q aX) E ai) E s:=
 eg he rm hs sx ca h1 λp ai aj a1 a2 a3 a4 a5 a6=>eg he rm a1 a5 cb h2 λq aX aT b1 b2 b3 b4 b5 b6=>g p q aX aT b1 (b2.trans a2) (b3.trans a3) (a4.trans b4) b5 (a6.mono b4.toLe) b6
theorem LC(hs:s.heap=W.h)(sx:St S T W env ks loc H){i:Sf}{x:SS}(hc:cA ks i x=R8)(hl:loc[i]? =KX (.fr v))(g:EG S T env ks loc H v s W Q):Sm (md S) A (TN (.Name x p) env) Q E s:=
 TK (eR hs sx.fr hc hl λq r=>g.same hs sx r s rfl rfl rfl) (eZ hc)
theorem Ma(st:bU S T P tb)(hs:s.heap=W.h)(sx:St S T W env ks loc H){i:Sf}{x:SS}(hc:jY tb ks i x=R8)(hl:P.bW[i]? =KX v)(g:EG S T env ks loc H v s W Q):
  Sm (md S) A (TN (.Name x p) env) Q E s:=qy (st:=st) hs sx.ok sx.fr hc hl λq r=>g.same hs sx r s rfl rfl rfl
theorem gY{l:R5 ME}:∀{loc:Loc} {H:Hp} {vs:R5 AV} {H':Hp},cq r l loc H=KX (vs,H')->vs.length=l.length:=by
 induction l with
 |nil=>exact λh=>gG rfl h
 |cons m l ih=>exact λh=>aC (λv H1 O h=>aC (λvs H2 h2 h=>gG (P:=λvs _=>vs.length=l.length+1) (R6 (·+1)<|ih h2) h) h) h
theorem qU(h:aA S W us vs)(e:vs.length=n)(z:n<1000):us.length<=sizeLine:=h.length▸e▸SQ (Sw z (by decide))
theorem NP(hl:iv S T tb r n)(rm:aN A n)(hs:s.heap=W.h)(sx:St S T W env ks loc H){l:R5 ME}{es:R5 SE}(ca:cP tb k ks l es=R8)(z:l.length<1000)(h:cq r l loc H=KX (vs,H'))
  (g:EG S T env ks loc H' (.tup vs) s W Q):Sm (md S) A (TN (.Tuple es c p) env) Q E s:=
 aaI (hl ca rm hs sx h λus ai aj a1 a2 a3 a4 a5=>⟨qU a5.2 (gY h) z,xh (s':={ai with heap:=ai.heap.push (cE us 0)}) a1 a5.2 rfl rfl rfl ((g.after a2 a3 a4).grow a5.1 _)⟩)
theorem MV(hl:iv S T tb r n)(rm:aN A n)(hs:s.heap=W.h)(sx:St S T W env ks loc H){l:R5 ME}{es:R5 SE}(ca:cP tb k ks l es=R8)(z:l.length<1000)(h:cq r l loc H=KX (vs,H'))
  (g:EG S T env ks loc H' (.lst vs) s W Q):Sm (md S) A (TN (.List es p) env) Q E s:=
 VO (hl ca rm hs sx h λus ai aj a1 a2 a3 a4 a5=>⟨qU a5.2 (gY h) z,p9 (s':={ai with heap:=ai.heap.push (aE us 0)}) a1 a5.2 rfl rfl rfl ((g.after a2 a3 a4).grow a5.1 _)⟩)
theorem dU.qh(st:bU S T P tb)(ok:dU S T W):(W.h.objs.size==UA)=false:=
 st.gl.elim λo q=>q.elim λes q=>q.elim λep q=>beq_eq_false_iff_ne.mpr λz=>TL (z▸TR (ok.base _ _ q.1 st.gl').1) (by decide)
theorem Nl(st:bU S T P tb)(hs:s.heap=W.h)(sx:St S T W env ks loc H)(g:EG S T env ks loc H (.dT []) s W Q):Sm (md S) A (TN (.Dict [] [] p) env) Q E s:=
 YY (r6 (mk:=λu0 n=>aI [] n) (vs:=[]) (s':={s with heap:=s.heap.push (aI [] 0)}) rfl hs rfl rfl rfl (λW' O e l=> .dT e l df.nil Vg<|hs▸sx.ok.qh st) (g.grow sx _))
theorem Ot(he:bH S T tb r n)(rm:aN A n)(hs:s.heap=W.h)(sx:St S T W env ks loc H){a b:ME}{x:SE}{u w:AV}{o:rT}(ca:aK tb k ks a x=R8)(cb:aK tb k ks b y=R8)
  (h1:r.e a loc H=KX (u,H1)) (h2:r.e b loc H1=KX (w,H')) (h:fV o u w=KX v) (g:EG S T env ks loc H' v s W Q):Sm (md S) A (TN (.BinOp x (wD o) y p) env) Q E s:=
 Za (Dd he rm hs sx ca cb h1 h2 λu0 u1 u2 u3 a1 a2 a3 a4 a5 a6 a7=>BC a1 h a6 a7<|(g.after a2 a3 a4).grow a5)
theorem kR{op:X0}:du e=R8->behindInMarks op e=false:=by
 induction e using SH<;>first|exact λu0=>rfl|exact bc
theorem Ox(st:bU S T P tb)(he:bH S T tb r n)(rm:aN A n)(hs:s.heap=W.h)(sx:St S T W env ks loc H){a b:ME}{x:SE}{u w:AV}{o:pW}{c:Sq}(ok:du y=R8)(ca:aK tb k ks a x=R8)(cb:aK tb k ks b y=R8)
  (h1:r.e a loc H=KX (u,H1)) (h2:r.e b loc H1=KX (w,H')) (h:dF o u w=KX c) (g:EG S T env ks loc H' (.bool c) s W Q):Sm (md S) A (TN (.Compare x [wy o] [y] p) env) Q E s:=
 wpAny_Compare1 (Dd he rm hs sx ca cb h1 h2 λu0 u1 u2 u3 a1 a2 a3 a4 a5 a6 a7=>BV st.bK a1 rm.nH h a6 a7<|(g.after a2 a3 a4).same a1 a5 .bool) (kR ok)
theorem Oz(st:bU S T P tb)(he:bH S T tb r n)(rm:aN A n)(hs:s.heap=W.h)(sx:St S T W env ks loc H){a b:ME}{x:SE}{u w:AV}{o:pW}{c:Sq}{whole:Sem Se}{Q:Sq->Sn->Prop}(ok:du y=R8)(ca:aK tb k ks a x=R8)(cb:aK tb k ks b y=R8)
  (h1:r.e a loc H=KX (u,H1)) (h2:r.e b loc H1=KX (w,H')) (h:dF o u w=KX c) (g:cZ s W (λW'=>St S T W' env ks loc H') (Q c)):Sm (md S) A (Wi (.Compare x [wy o] [y] p) env whole) Q E s:=
 XF (Dd he rm hs sx ca cb h1 h2 λu0 u1 u2 u3 a1 a2 a3 a4 a5 a6 a7=>BV st.bK a1 rm.nH h a6 a7 λu0 b1 b2 b3=>Tp<|(g.after a2 a3 a4).here a1 b1 b2 b3 a5) (kR ok)
theorem C0{x y z:AV}(hs:s.heap=W.h)(h:ff x y=KX z)(r:RV S W q x):∃t id,s.TypeIs q t/\Wh (.type t) "__getitem__"=pure (KX<|.builtin id):=
 r.cQ (λu0 u1 u2 u3 u4 a u5 u6=>⟨"tuple",_,⟨_,hs▸a,rfl⟩,slot_tuple_getitem.lookup⟩) h λh=>
 r.cN (λu0 u1 u2 u3 u4 a u5 u6=>⟨"list",_,⟨_,hs▸a,rfl⟩,slot_list_getitem.lookup⟩) h λh=>
 r.pb (λu0 u1 u2 u3 u4 a u5 u6 u7 u8=>⟨"dict",_,⟨_,hs▸a,rfl⟩,slot_dict_getitem.lookup⟩) h λh=>
 r.yF (λu0 u1 u2 u3 u4 a u5 u6 u7=>⟨"dict",_,⟨_,hs▸a,rfl⟩,slot_dict_getitem.lookup⟩) h λh=>
 r.yh (λu0 u1 u2 u3 u4 a u5 u6 u7=>⟨"dict",_,⟨_,hs▸a,rfl⟩,slot_dict_getitem.lookup⟩) h au
theorem nZ{sl:SE}(o i:Se):du sl=R8->subscripted sl Sj o i=operate [o,i] (Xv o i):=by
 induction sl using SH<;>first|exact λu0=>rfl|exact bc
theorem Og(he:bH S T tb r n)(rm:aN A n)(hs:s.heap=W.h)(sx:St S T W env ks loc H){a b:ME}{x:SE}{u w:AV}(ok:du y=R8)(ca:aK tb k ks a x=R8)(cb:aK tb k ks b y=R8)
  (h1:r.e a loc H=KX (u,H1)) (h2:r.e b loc H1=KX (w,H')) (h:ff u w=KX v) (g:EG S T env ks loc H' v s W Q):Sm (md S) A (TN (.Subscript x y p) env) Q E s:=by refine Yq<|Dd he rm hs sx ca cb h1 h2 λp q ai aj a1 a2 a3 a4 a5 a6 a7=> ?_;exact(C0 a1 h a6).elim λt q=>q.elim λid q=>YF q.1 q.2 (Ow a1 rm.nH h a6 a7 λq b=>(g.after a2 a3 a4).same a1 a5 b)<|nZ _ _ ok
theorem Mq(he:bH S T tb r n)(rm:aN A n)(hs:s.heap=W.h)(sx:St S T W env ks loc H){a b:ME}{x:SE}{m:Sf}{i:SK}(ok:du y=R8)(ca:aK tb k ks a x=R8)(cb:aK tb k ks b y=R8)
  (h1:r.e a loc H=KX (.ref m,H1)) (h2:r.e b loc H1=KX (.int i,H')) (hb:H'[m]? =KX (.box l)) (hi:0<=i/\i<big) (h:l[i.toNat]? =KX v) (g:EG S T env ks loc H' v s W Q):Sm (md S) A (TN (.Subscript x y p) env) Q E s:=by refine Yq<|Dd he rm hs sx ca cb h1 h2 λp q ai aj a1 a2 a3 a4 a5 a6 a7=> ?_;refine a6.nI λu0=>a7.eS λt=> ?_;refine sJ.casesOn (a5.hr.at_ m _ hb) λvs j b1 b2 b3=>(b3.get h).elim λq e=> ?_;have b2:=(R6 (λh:Tu=>h.get? (aj.ρ m)=KX (aE vs j)) a1).mpr b2;exact YF ⟨_,b2,rfl⟩ slot_list_getitem.lookup (Yl (d7 b2) hi.1 (Vp hi.2 (by decide)) (V2▸e.1)<|(g.after a2 a3 a4).same a1 a5 e.2 ai rfl rfl rfl)<|nZ _ _ ok
end
section
variable{K:Wz}{x:SJ}{ox:Xl}{od:Sh Xl}{expr:Sq}
theorem Ig(X:K.In s.heap)(I:InstAt s.heap x ox C od)(hga:TB K (.ref C) "__getattribute__"=KX (KX<|.builtin "BaseException.__getattribute__"))(hk:TB K (.ref C) "__getattr__"=KX Sd)
  (hm:mroIn K C (.type "BaseException")=KX R8) (hf:findObj K C od name=KX (.value v)) (hh:ZC v=R8) (h:Q v {s with toks:=s.toks+1}):Sm (Tj prog w) A (aae (.ref x) name expr) Q E s:=by
 obtain ⟨hp,g,d,t,os⟩:=s;have L0:=I.type (M:=Tj prog w);have L1:=WD (M:=Tj prog w) X hga;have L2:=WD (M:=Tj prog w) X hk;have L3:=looks_find (M:=Tj prog w) X I hf;have L4:Looks (Tj prog w) hp (isInstance (.ref x)<|.type "BaseException") true:=L0.andThen<|looks_mroIn X hm;have f3:=F.attr_Exception.ga.bind<|.ref x;have hk2:builtinKind "BaseException.__getattribute__"=KX .slot:=by decide+kernel
 have hsplit:splitId "BaseException.__getattribute__"=KX ("BaseException","__getattribute__"):=by decide+kernel
 refine R7<|wpAny_mkText<|SY<|R7<|L0.at (R7<|L1.at ?_);have hx:(onTheHeap (Vi C)&&V4 "BaseException.__getattribute__"==V4 "object.__getattribute__")=false:=by rw[show(V4 "BaseException.__getattribute__"==V4 "object.__getattribute__")=Sj from by decide+kernel];exact Xr _
 dsimp only;rw[hx];refine R7 ?_;refine L2.at ?_;have hx0:(expr&&onTheHeap (V4 "BaseException.__getattribute__"))=false:=by cases expr<;>rfl
 have Wv:∀(R:ZG->Sn->Prop) (tk:Sf),R (.ok<|.ret v) ⟨hp,g,d,t+1,os⟩->Um (Tj prog w) A (.call (.builtin "BaseException.__getattribute__") ⟨[.ref x,.str name tk],[]⟩) R ⟨hp,g,d,t+1,os⟩:=by
  intro R tk hq;have ha:=F.args_bexc_ga (.ref x)<|.str name tk;refine XW F.attr_Exception.ga.plain F.entry_bexc_ga ?_
  with_reducible refine check_slot (owner:="BaseException") (n:="__getattribute__") ?k1 ?k2 ?k3 ?k4 ?_
  case k1=>exact hk2
  case k2=>exact hsplit
  case k3=>exact L4
  case k4=>exact ha
  repeat (any_goals (first|assumption|with_reducible refine L0.at ?_|with_reducible refine L3.at ?_|wp_step))
 unfold callGetattribute boundAndCalled;rw[hx0,f3];refine R7<|wpAny_attempt<|SY ?_;refine UL<|Wv _ _ ?_;show Sm _ _ (handedOut v) _ _ _;rw[aad hh];exact Sg h
end
section
variable{v:AV}
theorem pd(st:bU S T P tb)(i x:Sf)(t:Tok):(Value.str (S.nm i) t).isStr (S.nm x)=decide (i=x):=
 Bool.eq_iff_iff.mpr ⟨λh=>Sz<|st.inj _ _<|eq_of_beq h,λh=>Sa h▸U1 _⟩
inductive kC{β:Type}(R:Se->β->Prop)(nm:SS)(es:R5 Sk)(o:Sh β):Prop
 |no:es.find? (·.key.isStr nm)=Sd->o=Sd->kC R nm es o
 |yes (e:Sk) (y:β):es.find? (·.key.isStr nm)=KX e->o=KX y->R e.val y->kC R nm es o
theorem kC.get{R:Se->β->Prop}{o:Sh β}{w:β}{P:Prop}(h:kC R nm es o)(e:o=KX w)(k:∀e,es.find? (·.key.isStr nm)=KX e->R e.val w->P):P:=
 h.casesOn (λu0 b=>au<|b.symm.trans e) λe' y a b c=>k e' a<|R9 (b.symm.trans e)▸c
theorem kC.not{R:Se->β->Prop}{o:Sh β}(h:kC R nm es o)(e:o=Sd):es.find? (·.key.isStr nm)=none:=
 h.casesOn (λa O=>a) λu0 u1 u2 b u3=>oA<|b.symm.trans e
theorem vw{R:Sf->Se->β->Prop}(st:bU S T P tb){i x:Sf}{hs:SK}{v:Se}{y:β}{o:Sh β}(r:R i v y)(h:kC (R x) (S.nm x) es o):kC (R x) (S.nm x) (⟨hs,.str (S.nm i) t,v⟩::es) (if i=x then KX y else o):=by
 by_cases e:i=x
 ·exact .yes ⟨hs,.str (S.nm i) t,v⟩ y (Zq<|(pd st i x t).trans<|Sz e) (Sv e)<|e▸r
 ·have q:(⟨hs,.str (S.nm i) t,v⟩::es).find? (·.key.isStr (S.nm x))=es.find? (·.key.isStr (S.nm x)):=Zr<|TF _▸(pd st i x t).trans (Un e)
  exact h.casesOn (λa b=> .no (q.trans a)<|(SI e).trans b) λe' y a b c=> .yes e' y (q.trans a) ((SI e).trans b) c
theorem RA.tL{l:R5 (Sf×AV)}:∀{es:R5 Sk},RA S W es l->es.any (·.refKey)=false:=by
 induction l with
 |nil=>exact λr=>r.bN rfl
 |cons p l ih=>exact λr=>r.aU λu0 u1 es u2 b=>(show es.any (·.refKey)=Sj from ih b)
theorem RA.look(st:bU S T P tb)(x:Sf){l:R5 (Sf×AV)}:∀{es:R5 Sk},RA S W es l->kC (RV S W) (S.nm x) es (fY x l):=by
 induction l with
 |nil=>exact λr=>r.bN<|.no rfl rfl
 |cons p l ih=>exact λr=>r.aU λu0 u1 u2 a b=>vw (R:=λu0=>RV S W) st a<|ih b
theorem bY.tL{m:Sf}{l:R5 (Sf×SV)}:∀{es:R5 Sk},bY S W m es l->es.any (·.refKey)=false:=by
 induction l with
 |nil=>exact λr=>r.bN rfl
 |cons p l ih=>exact λr=>r.aU λu0 u1 es u2 u3 b=>(show es.any (·.refKey)=Sj from ih b)
theorem bY.look(st:bU S T P tb){m:Sf}(x:Sf){l:R5 (Sf×SV)}:∀{es:R5 Sk},bY S W m es l->kC (λv y=>bV S W (.ha m x) (.hk m x) v y) (S.nm x) es (cL x l):=by
 induction l with
 |nil=>exact λr=>r.bN<|.no rfl rfl
 |cons p l ih=>exact λr=>r.aU λu0 u1 u2 u3 a b=>vw (R:=λi v y=>bV S W (.ha m i) (.hk m i) v y) st a<|ih b
theorem qC{e:Sk}(h:es.find? (·.key.isStr name)=KX e):getL name es=KX (KX e.val):=by unfold getL;rw[h]
theorem qq(h:es.find? (·.key.isStr name)=Sd)(r:es.any (·.refKey)=Sj):getL name es=KX none:=by unfold getL;rw[h,r];rfl
theorem j0{c:SJ}{sl:Td (Sh Se)}{h:Tu}(h1:h.get? a=KX (eE c d sl))(h2:h.get? d=KX (aI es j)):
  InstAt h a (eE c d sl) c (KX<|aI es j):=⟨h1,rfl,rfl,h2⟩
theorem uP(st:bU S T P tb){x:Sf}{y:SS}(h:oN P c x=R8)(hy:tb.nm[x]? =KX y):∃d,P.cls[c]? =KX d/\TB T.K (.ref<|S.cls c) y=KX Sd/\XU T.K (S.cls c) ""=R8/\VX T.K (S.cls c)=true:=
 da (P:=λo=>P.cls[c]? =o->∃d,P.cls[c]? =KX d/\TB T.K (.ref<|S.cls c) y=KX Sd/\XU T.K (S.cls c) ""=R8/\VX T.K (S.cls c)=R8) (λd h hd=>by have q:=st.cat c d x y hd hy;rw[Option.isNone_iff_eq_none.mp h] at q;exact ⟨d,hd,q,st.Eg c d hd⟩) h rfl
theorem xt{ox:Xl}{y:SS}(X:T.K.In s.heap)(I:InstAt s.heap a ox C (KX<|aI es j))(hg:XU T.K C ""=R8)(hh:VX T.K C=R8)(hf:TB T.K (.ref C) y=KX Sd)
  (hl:getL y es=KX (KX q)) (hv:ZC q=R8) (g:Q q {s with toks:=s.toks+1}):Sm (md S) A (aae (.ref a) y R8) Q E s:=
 get_value X I (XT hg).1 (findObj_own hh hf rfl (by rw[←hl];exact aaL _ _ _)) hv g
theorem Jl(st:bU S T P tb){cd:rO}{i:Sf}{y:SS}(hcd:P.cls[c]? =KX cd)(hy:tb.nm[i]? =KX y)(hf:fY i cd.meths=KX f)(q:getL y es=KX Sd):
  ∃fa,S.bK f=.ref fa/\isFn T.K (.ref fa)=R8/\XU T.K (S.cls c) ""=R8/\findObj T.K (S.cls c) (KX<|aI es j) y=KX (.bind (.builtin "function.__get__")<|.ref fa):=by
 have fc:=st.cat c cd i y hcd hy;rw[hf] at fc;dsimp only at fc;obtain ⟨f6,f7⟩:=st.Eg c cd hcd;refine(st.vP f).elim λfa ef=> ?_;rw[ef] at fc;refine ⟨fa,ef,fc.2.1,f6,?_⟩;refine(any_some f7).elim λcdd hd=> ?_;unfold findObj;rw[hd.1,VZ,fc.1,VZ];have ho:aaz cdd (KX<|aI es j) y=KX none:=by unfold aaz;rw[Sv hd.2];exact(aaL y es j).trans q
 dsimp only;rw[fc.2.2.1,VZ];dsimp only;rw[fc.2.2.2.1,VZ];rw[ho,VZ,fc.2.2.2.2]
 rfl
theorem N9(st:bU S T P tb){x:AV}{i:Sf}{y:SS}(hs:s.heap=W.h)(ok:dU S T W)(hr:HR S W H)(h:cT P H x i=KX v)(hy:tb.nm[i]? =KX y)(r:RV S W u x)
  (g:∀q,Grows s W (λW'=>RV S W' q v)<|Q q):Sm (md S) A (aae u y R8) Q E s:=by
 have X:=hs▸ok.iq st;have ny:=st.nm i y hy;refine r.eC (λc l h a d sl es n a1 b1 c1 d1 e1=>aR (λnm h=>(uP st nm hy).elim λu0 f=> ?_) h) h λh=> ?_
 ·exact(e1.look st i).get h λe q1 q3=>xt X (j0 (hs▸a1)<|hs▸c1) f.2.2.1 f.2.2.2 f.2.1 (qC<|ny▸q1) (q3.handed st)<|(g _).here hs rfl rfl rfl q3
 refine r.wq (λkd h a d o od k t a1 b1 c1 d1 e1 f1 g1 h1 q=>aR (λe h=> ?_) h) h λh=> ?_
 ·have ⟨x1,x2,x3,x4⟩:=st.Pz
  have ey:=R9<|hy.symm.trans (e▸x4);rw[ey];exact Ig X ⟨(hs▸a1),c1,d1,by rw[e1];exact(hs▸f1)⟩ x1.1 x1.2.1 x1.2.2 (findObj_own x2 x3 rfl h1) rfl ((g _).here hs rfl rfl rfl (RV.to .str<|q▸h))
 refine r.ie (λm h hm=>HE.gN (P:=λo=>H[m]? =o->Sm (md S) A (aae (.ref<|W.ρ m) y R8) Q E s) (λc l h e=>hV.casesOn (hr.at_ m _ e) λd sl es j a1 b1 c1 d1 e1=> ?_) h (λh O=>au h) rfl) h au;have I:=j0 (hs▸a1)<|hs▸d1;have lk:=e1.look st i;have rk:=e1.tL;generalize cL i l=o at h lk
 induction o using Sl with
 |some w=>exact SV.qW (λw h lk=>aR (λnm h=>(uP st nm hy).elim λu0 f=>lk.get rfl λe q1 q3=>
   have q4:=RV.to q3 h
   xt X I f.2.2.1 f.2.2.2 f.2.1 (qC<|ny▸q1) (q4.handed st) ((g _).here hs rfl rfl rfl q4)) h) h (λh O=>au h) lk
 |none=>exact kL (λcd hcd h=>bI (λf hf e=>(Jl st hcd hy hf<|qq (ny▸lk.not rfl) rk).elim λfa q=>
   get_bind X I (XT q.2.2.1).1 q.2.2.2 (XT q.2.2.1).2 (UL<|fn_get X (beq_iff_eq.mp q.2.1) (by show Sm _ _ (handedOut<|.ref s.heap.objs.size) _ _ _;rw[aad rfl];have k':∀(x:Xl) b o,W.h.get? b=KX o->(s.heap.push x).get? b=KX o:=λx b o e=>bZ b o<|hs▸e;exact Sg<|(g _).more (k' _) rfl rfl (e▸ .fJ (sl:= #[]) (q.1.symm▸SD _ rfl) (Wd.d6<|hs▸bz (SN _)) hm)))) h) h
set_option tactic.hygienic true in
theorem qX{o:SE}(x:SS)(env:Xz)(whole:Sem Se):baseOk o=R8->attributeBase o x env whole=whole:=by
 induction o using SH
 case Call g es kw p=>
  induction g using SH
  case Name id q=>
   induction es using Sp
   ·induction kw using Sp
    ·intro h
     have e:(id==("super"))=false:=eO h;unfold attributeBase;simp[bne,e]
    ·exact λu0=>rfl
   ·exact λu0=>rfl
  all_goals exact λu0=>rfl
 all_goals exact λu0=>rfl
theorem Od(st:bU S T P tb)(he:bH S T tb r n)(rm:aN A n)(hs:s.heap=W.h)(sx:St S T W env ks loc H){a:ME}{o:SE}{u:AV}{i:Sf}{y:SS}(bo:baseOk o=R8)(hy:tb.nm[i]? =KX y)(ca:aK tb k ks a o=R8)
  (h1:r.e a loc H=KX (u,H')) (h:cT P H' u i=KX v) (g:EG S T env ks loc H' v s W Q):Sm (md S) A (TN (.Attribute o y p) env) Q E s:=by rw[Yp,qX _ _ _ bo];refine R7<|eg he rm hs sx ca h1 λq ai aj a1 a2 a3 a4 a5 a6=>R7<|TU ?_;refine R7<|SY<|N9 st a1 a5.ok a5.hr h hy a6 λq aX aT b1 b2 b3 b4 b5=> ?_;exact R7<|XR<|Sg<|(g.after a2 a3 a4).grow a5 q aX aT b1 b2 b3 b4 b5
end
section
variable{v:AV}
theorem Nt(he:bH S T tb r n)(rm:aN A n)(hs:s.heap=W.h)(sx:St S T W env ks loc H){a b:ME}{x:SE}{i:SK}(hl:aw l.length=R8)(ca:aK tb k ks a x=R8)(cb:aK tb k ks b y=R8)
  (h1:r.e a loc H=KX (.tup l,H1)) (h2:r.e b loc H1=KX (.int i,H')) (g:EG S T env ks loc H' (.tup<|l.take<|ip l.length i) s W Q):
  Sm (md S) A (TN (.Subscript x (.Slice Sd (KX y) Sd p') p) env) Q E s:=by refine Yq<|eg he rm hs sx ca h1 λo ai aj a1 a2 a3 a4 a5 a6=> ?_;refine wpAny_Slice ?_;rw[evalPart_none,evalPart_some];refine Sg<|eg he rm a1 a5 cb h2 λq aX aT b1 b2 b3 b4 b5 b6=>Sg ?_;refine b6.eS λt=> ?_;have a7:=a6.mono b4.toLe;have m:=Wd.gF (h:=aX.heap.push {cls:=.type "slice",data:=.fields #[.none,.int i t,.none]}) λb o e=>bZ b o<|b1▸e;have c1:=a7.mono<|m.le id;have gg:=(g.after a2 a3 a4).after b2 b3<|b4.trans<|m.fk id (λu0=>id) λu0 u1=>id;have ty:({aX with heap:=aX.heap.push {cls:=.type "slice",data:=.fields #[.none,.int i t,.none]}}).TypeIs o "tuple":=c1.gy λu0 u1 u2 d1 u3 u4=>⟨_,d1,rfl⟩;exact YF ty slot_tuple_getitem.lookup (NO rfl hl c1 (Heap.IsSliceOf.new ..) (gg.grow<|b5.mv m λu0=>id)) rfl
theorem MZ(he:bH S T tb r n)(rm:aN A n)(hs:s.heap=W.h)(sx:St S T W env ks loc H){a:ME}{x:SE}(ca:aK tb k ks a x=R8)(h1:r.e a loc H=KX (.bool b,H'))(g:EG S T env ks loc H' (.bool<|!b) s W Q):
  Sm (md S) A (TN (.UnaryOp .Not x p) env) Q E s:=
 wpAny_UnaryOp (eg he rm hs sx ca h1 λq ai aj a1 a2 a3 a4 a5 a6=>
  a6.oZ (not_value<|Tp<|(g.after a2 a3 a4).same a1 a5 .bool ai rfl rfl rfl))
theorem NH(he:bH S T tb r n)(rm:aN A n)(hs:s.heap=W.h)(sx:St S T W env ks loc H){a:ME}{x:SE}{i:SK}(ca:aK tb k ks a x=R8)(h1:r.e a loc H=KX (.int i,H'))(g:EG S T env ks loc H' (.int<|-i) s W Q):
  Sm (md S) A (TN (.UnaryOp .USub x p) env) Q E s:=
 wpAny_UnaryOp (eg he rm hs sx ca h1 λq ai aj a1 a2 a3 a4 a5 a6=>
  a6.eS λu0=>PyProof.Rows.neg_int<|(g.after a2 a3 a4).same a1 a5 .int _ rfl rfl rfl)
theorem rL{op:X1}{x y:Sem Se}{rest:R5 (Sem Se)}(h:Sm M A x (λv ai=>Sm M A (truthy v) (λt aX=>match op,t with
   |.And,Sj=>Q v aX
   |.Or,R8=>Q v aX
   |_,_=>Sm M A (boolOp pos op (y::rest)) Q E aX) E ai) E s):Sm M A (boolOp pos op (x::y::rest)) Q E s:=by
 refine R7<|TS h (λv ai jV=>R7<|TU<|R7<|SY<|TS jV (λt aX vc=> ?_) λu0 u1 x=>x) λu0 u1 x=>x
 induction op using BoolOp.casesOn<;>induction t using Tb<;>first|exact Sg vc|exact vc
theorem NX(he:bH S T tb r n)(rm:aN A n){l:R5 ME}:∀{es:R5 SE} {k:Sf} {s:Sn} {W:Wd} {H:Hp} {pos:Vu},s.heap=W.h->St S T W env ks loc H->cP tb k ks l es=R8->uR r l loc H=KX (v,H')->EG S T env ks loc H' v s W Q->
  Sm (md S) A (boolOp pos .And<|evalEach es env) Q E s:=by
 induction l with
 |nil=>exact λu0 u1 u2 h u3=>au h
 |cons m l ih=>
  intro es k s W H pos hs sx c h g;refine dQ (λk' e es' O u1 c2 c3=> ?_) c
  induction l using Sp with
  |nil=>exact fN (he c2 rm hs sx h g) c3
  |cons m2 l=>
   refine dQ (λu0 e2 es2 u1 u2 u3 u4 c3=>aC (λw H1 h1 h=>AV.gM (P:=λw=>r.e m loc H=KX (w,H1)->_) (λb h h1=> ?_) h au h1) h) c3 c3;refine rL<|eg he rm hs sx c2 h1 λq ai aj a1 a2 a3 a4 a5 a6=>a6.oZ ?_
   induction b using Tb
   ·exact Tp<|gG (λg=>(g.after a2 a3 a4).same a1 a5 .bool ai rfl rfl rfl) h g
   ·exact Tp<|ih a1 a5 c3 h<|g.after a2 a3 a4
theorem P8(he:bH S T tb r n)(rm:aN A n){l:R5 ME}:∀{es:R5 SE} {k:Sf} {s:Sn} {W:Wd} {H:Hp} {pos:Vu},s.heap=W.h->St S T W env ks loc H->cP tb k ks l es=R8->Aj r l loc H=KX (v,H')->EG S T env ks loc H' v s W Q->
  Sm (md S) A (boolOp pos .Or<|evalEach es env) Q E s:=by
 induction l with
 |nil=>exact λu0 u1 u2 h u3=>au h
 |cons m l ih=>
  intro es k s W H pos hs sx c h g;refine dQ (λk' e es' O u1 c2 c3=> ?_) c
  induction l using Sp with
  |nil=>exact fN (he c2 rm hs sx h g) c3
  |cons m2 l=>
   refine dQ (λu0 e2 es2 u1 u2 u3 u4 c3=>aC (λw H1 h1 h=>AV.gM (P:=λw=>r.e m loc H=KX (w,H1)->_) (λb h h1=> ?_) h au h1) h) c3 c3;refine rL<|eg he rm hs sx c2 h1 λq ai aj a1 a2 a3 a4 a5 a6=>a6.oZ ?_
   induction b using Tb
   ·exact Tp<|ih a1 a5 c3 h<|g.after a2 a3 a4
   ·exact Tp<|gG (λg=>(g.after a2 a3 a4).same a1 a5 .bool ai rfl rfl rfl) h g
theorem M8(he:bH S T tb r n)(ht:iG S T tb r n)(rm:aN A n)(hs:s.heap=W.h)(sx:St S T W env ks loc H){c a b:ME}{x:SE}{t:Sq}(cc:aK tb k ks c z=R8)(ca:aK tb k ks a x=R8)(cb:aK tb k ks b y=R8)
  (h1:r.t c loc H=KX (t,H1)) (h2:r.e (UI t a b) loc H1=KX (v,H')) (g:EG S T env ks loc H' v s W Q):Sm (md S) A (TN (.IfExp z x y p) env) Q E s:=by
 refine wpAny_IfExp<|ht cc rm hs sx h1 λai aj a1 a2 a3 a4 a5=> ?_
 induction t using Tb
 ·exact he cb rm a1 a5 h2<|g.after a2 a3 a4
 ·exact he ca rm a1 a5 h2<|g.after a2 a3 a4
theorem DH(he:bH S T tb r n)(rm:aN A n)(hs:s.heap=W.h)(sx:St S T W env ks loc H){a b c:ME}{x:SE}{i j:SK}(o1:du y=R8)(o2:du z=R8)(ca:aK tb k ks a x=R8)(cb:aK tb k ks b y=R8)(cc:aK tb k ks c z=R8)
  (h1:r.e a loc H=KX (.int i,H1)) (h2:r.e b loc H1=KX (.int j,H2)) (h3:(¬i<j/\v=.bool Sj/\H'=H2)\/(i<j/\∃l,r.e c loc H2=KX (.int l,H')/\v=.bool (decide (j<=l)))) (g:EG S T env ks loc H' v s W Q):
  Sm (md S) A (TN (.Compare x [.Lt,.LtE] [y,z] p) env) Q E s:=by
 rw[arm_eval_Compare];have mk:markedEach [.Lt,.LtE] [y,z] (evalEach [y,z] env)=[TN y env,TN z env]:=by rw[markedEach_of_false _ _ _ (by show behindInMarks .LtE z=Sj;exact kR o2)];rfl
 rw[mk];refine R7<|eg he rm hs sx ca h1 λq ai aj a1 a2 a3 a4 a5 a6=> ?_;refine R7<|SY<|eg he rm a1 a5 cb h2 λq2 aX aT b1 b2 b3 b4 b5 b6=>R7<|TU ?_;refine a6.eS λt1=>b6.eS λt2=>R7<|SY<|YJ<|R7<|wpAny_release<|R7<|SY<|Tp ?_;refine h3.elim (λh3=> ?_) λh3=>h3.2.elim λl h4=> ?_
 ·rw[Un h3.1]
  exact Sg<|((g.after a2 a3 a4).after b2 b3 b4).same b1 (h3.2.2▸b5) (h3.2.1▸RV.bool) aX rfl rfl rfl
 ·rw[Sz h3.1]
  refine R7<|SY<|eg he rm b1 b5 cc h4.1 λq3 nU yK c1 c2 c3 c4 c5 c6=>R7<|TU<|wpAny_operate' ?_;exact c6.eS λt3=>YK<|(((g.after a2 a3 a4).after b2 b3 b4).after c2 c3 c4).same c1 c5 (h4.2▸RV.bool) nU rfl rfl rfl
theorem N1(ht:iG S T tb r n)(rm:aN A n){Q:Sq->Sn->Prop}{l:R5 ME}:∀{es:R5 SE} {k:Sf} {s:Sn} {W:Wd} {H:Hp},s.heap=W.h->St S T W env ks loc H->cP tb k ks l es=R8->u9 r l loc H=KX (b,H')->
  cZ s W (λW'=>St S T W' env ks loc H') (Q b)->Sm (md S) A (allTrue .And es env) Q E s:=by
 induction l with
 |nil=>exact fun{_ _ s W H} hs sx c h g=>fN (wpAny_allTrue_And_nil<|gG (λg=>g.here hs rfl rfl rfl sx) h g) c
 |cons m l ih=>
  intro es k s W H hs sx c h g;refine dQ (λk' e es' O u1 c2 c3=>aC (λb1 H1 h1 h=>wpAny_allTrue_And_cons<|ht c2 rm hs sx h1 ?_) h) c
  induction b1 using Tb
  ·exact gG (λg=>g) h g
  ·exact λai aj a1 a2 a3 a4 a5=>ih a1 a5 c3 h<|g.after a2 a3 a4
theorem sS{x:SE}{rest:R5 SE}{Q:Sq->Sn->Prop}
  (h:Sm M A (Wi x env<|TN x env) (λb ai=>if b then Q R8 ai else Sm M A (allTrue .Or rest env) Q E ai) E s):Sm M A (allTrue .Or (x::rest) env) Q E s:=by
 refine R7<|TS h (λb ai jV=> ?_) λu0 u1 x=>x
 cases b
 ·exact jV
 ·exact Sg jV
theorem Qy(ht:iG S T tb r n)(rm:aN A n){Q:Sq->Sn->Prop}{l:R5 ME}:∀{es:R5 SE} {k:Sf} {s:Sn} {W:Wd} {H:Hp},s.heap=W.h->St S T W env ks loc H->cP tb k ks l es=R8->zL r l loc H=KX (b,H')->
  cZ s W (λW'=>St S T W' env ks loc H') (Q b)->Sm (md S) A (allTrue .Or es env) Q E s:=by
 induction l with
 |nil=>exact fun{_ _ s W H} hs sx c h g=>fN (wpAny_allTrue_Or_nil<|gG (λg=>g.here hs rfl rfl rfl sx) h g) c
 |cons m l ih=>
  intro es k s W H hs sx c h g;refine dQ (λk' e es' O u1 c2 c3=>aC (λb1 H1 h1 h=>sS<|ht c2 rm hs sx h1 ?_) h) c
  induction b1 using Tb
  ·exact λai aj a1 a2 a3 a4 a5=>ih a1 a5 c3 h<|g.after a2 a3 a4
  ·exact gG (λg=>g) h g
end
section
variable{v:AV}
structure CW(S:bf)(A:Vj)(f:Se)(first:R5 Se)(Pf:Tu->Prop):Prop where
 run:∀{pos:Vu} {args:R5 (Sq×Sem Se)} {Q:Se->Sn->Prop} {E:Se->Sn->Prop} {s:Sn},args.any (·.1)=Sj->
 Sm (md S) A (evalArgs f R8 args []) (λa ai=>Pf ai.heap/\Sm (md S) A (Wv f (first++a.pos) a.kw) Q E ai) E s->Sm (md S) A (ZE pos f first args []) Q E s
theorem ft{id:WO}{first:R5 Se}:CW S A (.builtin id) first (λu0=>Y2):=⟨λhp h=>callWith_builtin hp<|TS h (λu0 u1 x=>x.2) λu0 u1 x=>x⟩
theorem oG{t:WO}{first:R5 Se}:CW S A (.type t) first (λu0=>Y2):=⟨λhp h=>PySem.callWith_type hp<|TS h (λu0 u1 x=>x.2) λu0 u1 x=>x⟩
theorem sd{K:Wz}{f:Se}{first:R5 Se}(hk:ZA K f=R8):CW S A f first K.In:=⟨λhp h=>callWith_of (by simp only[hp];rfl) (keeps_K hk) h⟩
theorem gP{l:R5 ME}:∀{es:R5 SE} {k:Sf} {pos:Vu},cP tb k ks l es=R8->(Ww pos<|UY es env).any (·.1)=false:=by
 induction l with
 |nil=>exact fun{_ _ pos} c=>fN rfl c
 |cons m l ih=>exact fun{_ _ pos} c=>dQ (λk e es O c1 u1 c3=>(R6 (λl=>(Ww pos l).any (·.1)=Sj)<|eI c1).mpr<|ih c3) c
theorem wH{l:R5 ME}:∀{es:R5 SE} {k:Sf},cP tb k ks l es=R8->es.length=l.length:=by
 induction l with
 |nil=>exact λc=>fN rfl c
 |cons m l ih=>exact λc=>dQ (λk e es O u1 u2 c3=>R6 (·+1)<|ih c3) c
theorem callArgs(hl:iv S T tb r n){f:Se}{first:R5 Se}{Pf:Tu->Prop}(cw:CW S A f first Pf)(rm:aN A n)(hs:s.heap=W.h)(sx:St S T W env ks loc H){l:R5 ME}{es:R5 SE}(ca:cP tb k ks l es=R8)
  (h:cq r l loc H=KX (vs,H')) (g:∀us ai aj,ai.heap=aj.h->ai.gens=s.gens->ai.os=s.os->W.Fk aj->St S T aj env ks loc H'->aA S aj us vs->Pf ai.heap/\Sm (md S) A (Wv f<|first++us) Q E ai):
  Sm (md S) A (ZE pos f first (Ww pos<|UY es env) []) Q E s:=by
 refine cw.run (gP ca) ?_
 induction l using Sp with
 |nil=>exact fN (have q:=gG (P:=λvs H'=>St S T W env ks loc H'/\aA S W [] vs) ⟨sx,aA.nil⟩ h;ZS (g [] s W hs rfl rfl (.refl W) q.1 q.2)) ca
 |cons m l=>
  have key:=hl (pos:=pos) (E:=E) ca rm hs sx h λus ai aj a1 a2 a3 a4 a5=>g us ai aj a1 a2 a3 a4 a5.1 a5.2;refine dQ (λk e es O c1 u1 u2 key=> ?_) ca key;rw[eI c1] at key⊢;exact UB key
theorem Wd.Fk.st(f:W.Fk W')(ok:dU S T W')(hr:HR S W' H')(sx:St S T W env ks loc H):St S T W' env ks loc H':=⟨ok,hr,sx.fr.kp f.kp⟩
theorem Iv(st:bU S T P tb)(hl:iv S T tb r n)(hf:pj S T r n)(rm:aN A n)(hs:s.heap=W.h)(sx:St S T W env ks loc H){gi:Sf}{x:SS}{l:R5 ME}{es:R5 SE}
  (cg:jY tb ks gi x=R8) (ca:cP tb k ks l es=R8) (hg:P.bW[gi]? =KX (.fn f)) (h1:cq r l loc H=KX (vs,H1)) (h2:r.f f vs H1=KX (v,H')) (g:EG S T env ks loc H' v s W Q):
  Sm (md S) A (TN (.Call (.Name x p) es [] pos) env) Q E s:=by refine Th<|qy (st:=st) hs sx.ok sx.fr cg hg λq rq=>rq.GQ ?_;refine callArgs hl (sd (st.xw f).1) rm hs sx ca h1 λus ai aj a1 a2 a3 a4 a5 a6=>⟨a1▸a5.ok.iq st,?_⟩;exact UL<|hf rm a1 a5.ok a5.hr a6 h2 λq aX aT b1 b2 b3 b4 b5=>(g.after a2 a3 a4) q aX aT b1 b2 b3 b4 ⟨b5.1.st b5.2.1 b5.2.2.1 a5,b5.2.2.2⟩
theorem AY(b:Bi):CW S A (vm b) [] (λu0=>Y2):=by
 induction b using Bi.casesOn<;>first|exact ft|exact oG
theorem Gy(hl:iv S T tb r n)(rm:aN A n)(hs:s.heap=W.h)(sx:St S T W env ks loc H){b:Bi}{f:Se}{l:R5 ME}{es:R5 SE}(ef:vm b=f)(cw:CW S A f [] (λu0=>Y2))
  (ca:cP tb k ks l es=R8) (h1:cq r l loc H=KX (vs,H')) (h2:gO b vs=KX v) (g:EG S T env ks loc H' v s W Q):
  Sm (md S) A (ZE pos f [] (Ww pos<|UY es env) []) Q E s:=by refine callArgs hl cw rm hs sx ca h1 λus ai aj a1 a2 a3 a4 a5 a6=>⟨trivial,?_⟩;rw[Ua,←ef];exact Ld rm.hd a1 h2 a6<|(g.after a2 a3 a4).grow a5
theorem Im(st:bU S T P tb)(hl:iv S T tb r n)(rm:aN A n)(hs:s.heap=W.h)(sx:St S T W env ks loc H){b:Bi}{x:SS}{l:R5 ME}{es:R5 SE}
  (cg:eP ks x=R8) (m1:T.mg x=Sd) (m2:T.mb x=KX (vm b)) (ca:cP tb k ks l es=R8) (h1:cq r l loc H=KX (vs,H')) (h2:gO b vs=KX v) (g:EG S T env ks loc H' v s W Q):
  Sm (md S) A (TN (.Call (.Name x p) es [] pos) env) Q E s:=by have cw:=AY (S:=S) (A:=A) b;generalize ef:vm b=f at cw m2;exact Th<|kM (st:=st) hs sx.ok sx.fr cg m1 m2<|Gy hl rm hs sx ef cw ca h1 h2 g
theorem H7{K:Wz}{f:SJ}:fnIn K f=R8->∃c d fd sl,K.lookup f=KX ⟨c,d,.func fd,sl⟩:=by
 unfold fnIn;generalize K.lookup f=o
 induction o using Sl with
 |none=>exact bc
 |some o=>
  induction o using YB with|mk c d x sl=>
  induction x using Wo<;>first|exact bc|exact λh=>⟨_,_,_,_,rfl⟩
theorem Jr(st:bU S T P tb)(hl:iv S T tb r n)(hf:pj S T r n)(rm:aN A n)(hs:s.heap=W.h)(sx:St S T W env ks loc H){i m:Sf}{x:SS}{l:R5 ME}{es:R5 SE}
  (cg:cA ks i x=R8) (ca:cP tb k ks l es=R8) (hi:loc[i]? =KX (.fr<|.fJ f m)) (h1:cq r l loc H=KX (vs,H1)) (h2:r.f f (.ref m::vs) H1=KX (v,H')) (g:EG S T env ks loc H' v s W Q):
  Sm (md S) A (TN (.Call (.Name x p) es [] pos) env) Q E s:=by
 refine Th<|TK (eR hs sx.fr cg hi λq rq=>rq.NB λa sl b1 b2 b3=>(st.vP f).elim λfa ef=> ?_)<|eZ cg;have cw:CW S A (.ref a) [] (λh=>h.get? a=KX {cls:=.type "method",data:=.fields #[S.bK f,.ref<|W.ρ m],slots:=sl}/\T.K.In h):=by refine ⟨λ{pos args Q E s} hp h=> ?_⟩;refine callWith_of (P:=λh=>h.get? a=KX {cls:=.type "method",data:=.fields #[S.bK f,.ref<|W.ρ m],slots:=sl}/\T.K.In h) (by simp only[hp];rfl) (λh X=> ?_) h;have hk:=(st.xw f).2 fa ef;refine(H7 hk).elim λc e=>e.elim λd e=>e.elim λfd e=>e.elim λsl e=>⟨.boundFrame,.inr<|.inr rfl,(Looks.ld X.1).andThen ?_⟩;rw[ef];exact(Looks.ld<|X.2 _ _ e).andThen .now
 refine callArgs hl cw rm hs sx ca h1 λus ai aj a1 a2 a3 a4 a5 a6=> ?_;have q1:=a1▸a4.keep _ _ b1 b2;refine ⟨⟨q1,a1▸a5.ok.iq st⟩,UL ?_⟩;have key:=hf (E:=E) rm a1 a5.ok a5.hr (aA.cons ((RV.ref b3).mono a4.toLe) a6) h2 λq aX aT b1 b2 b3 b4 b5=>(g.after a2 a3 a4) q aX aT b1 b2 b3 b4 ⟨b5.1.st b5.2.1 b5.2.2.1 a5,b5.2.2.2⟩;refine Zh ?_
 revert q1 key
 induction ai using aaw
 refine λq1 key=>nd_load q1 ?_;rw[ef] at key⊢;exact Sg ⟨rfl,key⟩
theorem gK{o:SE}{apos:Vu}{es:R5 SE}(bo:baseOk o=R8)(hline:(apos.endLine==pos.line)=R8)(hp:(Ww pos<|UY es env).any (·.1)=Sj)(hn:es.length<29)
  (h:Sm M A (TN o env) (λov ai=>∀pl,Sm M A (Y1 ov name pl) (λp aX=>Sm M A (ZE pos p.1 p.2 (Ww pos<|UY es env) []) Q E aX) E ai) E s):
  Sm M A (TN (.Call (.Attribute o name apos) es [] pos) env) Q E s:=by
 rw[arm_eval_Call,qX _ _ _ bo];refine R7<|TS h (λov ai jV=>R7<|TU ?_) λu0 u1 e=>e;have hform:methodCallForm (es.length+([]:R5 Keyword).length) (Ww pos<|UY es env) (backToKw pos<|keywordEach [] env)=true:=by have all:(Ww pos<|UY es env).all (λx=> !x.1)=true:=List.all_eq_true.mpr λx hx=>Vb x.1▸(TF _▸List.any_eq_false.mp hp x hx);unfold methodCallForm;rw[all];exact(R6 (R8&&R8&&·)<|Sz<|UD hn).trans rfl
 have hpos:methodCallPos R8 o env apos pos=pure pos:=by unfold methodCallPos;simp[hline]
 unfold methodCall;rw[hform];refine R7<|SY ?_;exact TS (jV _) (λp aX vc=>R7<|aaF hpos vc) λu0 u1 e=>e
theorem Lv(st:bU S T P tb){x:AV}{i:Sf}{y:SS}{pl:Sem Sq}{Q:Se×R5 Se->Sn->Prop}(hs:s.heap=W.h)(ok:dU S T W)(hr:HR S W H)(h:bP P H x i=KX f)(hy:tb.nm[i]? =KX y)(ru:RV S W u x)
  (g:Q (S.bK f,[u]) s):Sm (md S) A (Y1 u y pl) Q E s:=by
 have X:=hs▸ok.iq st;have ny:=st.nm i y hy;refine kL (λc hc h=>kL (λd hd h=> ?_) h) h;have no:¬xu H i x=true:=λz=>au<|(Sv z).symm.trans h;have h:=(SI no).symm.trans h;have fc:=st.cat c d i y hd hy;rw[h] at fc;have fg:=st.Eg c d hd;have fin:∀{c':Sf} {a:SJ} {ox:Xl} {es:R5 Sk} {j:Sf},KX c'=KX c->InstAt s.heap a ox (S.cls c') (KX<|aI es j)->getL y es=KX Sd->Q (S.bK f,[.ref a]) s->Sm (md S) A (Y1 (.ref a) y pl) Q E s:=fun{c' a ox es j} e I hl hq=>
  (st.vP f).elim λfa ef=>method_fn X ((R6 (λc=>InstAt s.heap a ox (S.cls c)<|KX<|aI es j)<|R9 e).mp I) (XT fg.1).1 (XT fg.1).2 (ef▸fc.1) (beq_iff_eq.mp<|ef▸fc.2.1) (R6 (Uo _)<|(aaL y es j).trans hl)<|ef▸hq;refine AV.gN (λc' l hc ru no=>ru.Hl
  (λa d sl es n a1 b1 c1 d1 e1 g=>fin hc (j0 (hs▸a1)<|hs▸c1) (qq (ny▸(e1.look st i).not (Option.not_isSome_iff_eq_none.mp no)) e1.tL) g) g) hc (λhc ru no=> ?_) ru no;refine AV.gS (λm hc ru no=>ru.nI (λu0 g=> ?_) g) hc (λhc O u1=>au hc) ru no;exact HE.gN (P:=λo=>H[m]? =o->¬HE.eC o R8 (λu0 l=>(cL i l).isSome)=R8->Sm (md S) A (Y1 (.ref<|W.ρ m) y pl) Q E s) (λc' l hc hm no=>hV.casesOn (hr.at_ m _ hm) λd sl es j a1 b1 c1 d1 e1=>
  fin hc (j0 (hs▸a1)<|hs▸d1) (qq (ny▸(e1.look st i).not (Option.not_isSome_iff_eq_none.mp no)) e1.tL) g) hc (λhc O u1=>au hc) rfl no
theorem I0(st:bU S T P tb)(he:bH S T tb r n)(hl:iv S T tb r n)(hf:pj S T r n)(rm:aN A n)(hs:s.heap=W.h)(sx:St S T W env ks loc H){a:ME}{o:SE}{i:Sf}{y:SS}{l:R5 ME}{es:R5 SE}{u:AV}
  (bo:baseOk o=R8) (hy:tb.nm[i]? =KX y) (hline:(ap.endLine==pos.line)=R8) (co:aK tb k ks a o=R8) (ca:cP tb k ks l es=R8) (hn:l.length<29) (h0:r.e a loc H=KX (u,H1)) (hm:bP P H1 u i=KX f) (h1:cq r l loc H1=KX (vs,H2)) (h2:r.f f (u::vs) H2=KX (v,H'))
  (g:EG S T env ks loc H' v s W Q):Sm (md S) A (TN (.Call (.Attribute o y ap) es [] pos) env) Q E s:=by refine gK bo hline (gP ca) (by rw[wH ca];exact hn)<|eg he rm hs sx co h0 λq ai aj a1 a2 a3 a4 a5 a6 pl=>Lv st a1 a5.ok a5.hr hm hy a6 ?_;refine callArgs hl (sd (st.xw f).1) rm a1 a5 ca h1 λus aX aT b1 b2 b3 b4 b5 b6=>⟨b1▸b5.ok.iq st,?_⟩;have rr:aA S aT (q::us) (u::vs):=.cons (a6.mono b4.toLe) b6;exact UL<|hf rm b1 b5.ok b5.hr rr h2 λq aX aT c1 c2 c3 c4 c5=>((g.after a2 a3 a4).after b2 b3 b4) q aX aT c1 c2 c3 c4 ⟨c5.1.st c5.2.1 c5.2.2.1 b5,c5.2.2.2⟩
theorem DC(he:bH S T tb r n)(hl:iv S T tb r n)(rm:aN A n)(hs:s.heap=W.h)(sx:St S T W env ks loc H){a:ME}{o:SE}{l:R5 ME}{es:R5 SE}{m:R5 (R5 AV×AV)}{kk:R5 AV}{rest:R5 AV}
  (bo:baseOk o=R8) (hline:(ap.endLine==pos.line)=R8) (co:aK tb k ks a o=R8) (ca:cP tb k ks l es=R8) (h0:r.e a loc H=KX (.dT m,H1)) (h1:cq r l loc H1=KX (.tup kk::rest,H')) (key:AV.key 4 (.tup kk)=R8)
  (hr:(rest=[]/\v=(bX kk m).getD .none)\/∃d,rest=[d]/\v=(bX kk m).getD d) (g:EG S T env ks loc H' v s W Q):Sm (md S) A (TN (.Call (.Attribute o ("get":SS) ap) es [] pos) env) Q E s:=by
 have hlen:es.length<29:=wH ca▸gY h1▸hr.elim (λq=>q.1▸(by decide:1<29)) λq=>q.elim λd q=>q.1▸(by decide:2<29);refine gK bo hline (gP ca) hlen<|eg he rm hs sx co h0 λq ai aj a1 a2 a3 a4 a5 a6 pl=>a6.Px λd es' j d1 d2 d3 d4 d5=> ?_;have d1':=a1▸d1;refine V8 ⟨_,d1',rfl⟩ F.plainAttrs_dict Y8 F.type_dict_get (λb e=>(Vh e▸⟨_,d1',rfl⟩)) ?_;refine callArgs hl ft rm a1 a5 ca h1 λus aX aT b1 b2 b3 b4 b5 b6=>⟨trivial,?_⟩;refine b6.aU λu us r1 r2=>te (P:=λu=>Sm (md S) A (Wv (.builtin "dict.get") (.ref d::u::us)) Q E aX) b1 rm.nH r1 key (b4.keep _ _ d1 d2) (d3.mono b4.toLe) d4 λka xs O room kis mm x=> ?_;have G:=(g.after a2 a3 a4).after b2 b3 b4;refine hr.elim (λq=> ?_) λq=>q.elim λdv q=> ?_
 ·refine(q.1▸r2).bN<|call_meetsIn Y8 mm.typeIs abu (F.args_dict_get_2 _ _) (meetsH_dict_get (fj S) d ka d5) ⟨room,.tup kk,xs,kis,mm,?_⟩
  exact(x.at_ kk).casesOn (λe1 e2=>e1▸(G.same b1 b5<|q.2▸e2▸RV.none) _ rfl rfl rfl) λp y e1 e2 rv=>e1▸(G.same b1 b5<|q.2▸e2▸rv) _ rfl rfl rfl
 ·refine(q.1▸r2).aU λdvv us rd r3=>r3.bN
   (call_meetsIn Y8 mm.typeIs abu (F.args_dict_get_3 _ _ _) (meetsH_dict_get_default (fj S) d ka d5 dvv) ⟨room,.tup kk,xs,kis,mm,?_⟩)
  exact(x.at_ kk).casesOn (λe1 e2=>e1▸(G.same b1 b5<|q.2▸e2▸rd) _ rfl rfl rfl) λp y e1 e2 rv=>e1▸(G.same b1 b5<|q.2▸e2▸rv) _ rfl rfl rfl
end
noncomputable def Wd.eV(W:Wd)(p:aF->Sq):Wd:={W with ah:=λb=>Sl (W.ah b) Sd λℓ=>UI (p ℓ) Sd (KX ℓ)}
section
variable{p:aF->Sq}
theorem Wd.oR(h:W.ah a=Sd):(W.eV p).ah a=none:=R6 (λo:Sh aF=>Sl (motive:=λu0=>Sh aF) o Sd λℓ=>UI (p ℓ) Sd<|KX ℓ) h
theorem Wd.yb(h:W.ah a=KX ℓ):(W.eV p).ah a=UI (p ℓ) Sd (KX ℓ):=R6 (λo:Sh aF=>Sl (motive:=λu0=>Sh aF) o Sd λℓ=>UI (p ℓ) Sd<|KX ℓ) h
theorem Wd.js(h:W.ah a=KX ℓ)(hp:p ℓ=R8):(W.eV p).ah a=none:=(Wd.yb h).trans<|hp▸rfl
theorem Wd.pa(h:W.ah a=KX ℓ)(hp:p ℓ=Sj):(W.eV p).ah a=KX ℓ:=(Wd.yb h).trans<|hp▸rfl
end
theorem Wd.mD(W:Wd)(p:aF->Sq):W.Kp (λℓ=>p ℓ=Sj) (W.eV p):=
 ⟨⟨λu0 u1 e u2=>e,λu0 u1 u2 l=>Wd.oR l,λu0 u1=>rfl,SN _⟩,λu0 u1 u2 hp e l=>⟨e,Wd.pa l hp⟩⟩
theorem Wd.xk(W:Wd)(p:aF->Sq)(h1:p .out=Sj)(h2:∀n,p (.hd n)=Sj):W.Go (W.eV p):=
 ⟨⟨(W.mD p).toFe,λu0 u1 u2 l=>Wd.pa l h1,λu0 u1 e u2=>e⟩,λu0 u1 u2 u3 e l=> .same e<|Wd.pa l<|h2 _⟩
theorem pN.frozen(fe:W.Fe W')(hh:W'.h=W.h)(h2:∀k a,W.ah a=KX (ℓk k)->W'.ah a=Sd){l:R5 (R5 AV)}:∀{vs:R5 Se} {j:Sf},vs.length=l.length->(∀k m,l[k]? =KX m->pM S W (λk=>ℓk<|k+j) vs k m)->aA S W' vs (l.map .lst):=by
 induction l with
 |nil=>exact fun{vs _} hl _=>Sp vs (λu0=>aA.nil) (λu0 u1 e=>nomatch e) hl
 |cons m l ih=>exact fun{vs j} hl hk=>Sp vs (λe=>nomatch e) (λv vs hl hk=>pM.casesOn (hk 0 m rfl) λb ws i e1 e2 e3 e4=>aA.cons (R9 e1▸ .lst (hh▸e3) (h2 _ _ e2) (e4.bE fe))<|ih (XD hl) λk m' hm=>pM.casesOn (hk (k+1) m' hm) λb ws i e1 e2 e3 e4=>⟨b,ws,i,e1,(R6 (λn=>W.ah b=KX (ℓk n))<|WR k j).mp e2,e3,e4⟩) hl hk
theorem bV.frozen{v:AV}{p:aF->Sq}(r:bV S W ℓ ℓk q sv)(h:sv.frozen=KX v)(h1:p ℓ=R8)(h2:∀k,p (ℓk k)=R8):RV S (W.eV p) q v:=by
 have fe:=(W.mD p).toFe
 induction sv using SV.casesOn
 ·exact r.elim
 ·exact(RV.bE fe r).to h
 ·exact r.wO λa vs n a b c=>RV.to (.lst b (Wd.js a h1)<|c.bE fe) h
 ·exact r.By λa vs n a b c=>RV.to (.lst b (Wd.js a h1)<|pN.frozen (j:=0) fe rfl (λk O l=>Wd.js l<|h2 k) c.len c.at_) h
 ·exact r.yC λa es n a b c d e=>RV.to (.dT b (Wd.js a h1) (c.bE fe) d e) h
 ·exact r.zC λa es n a b c d e=>RV.to (.dI b (Wd.js a h1) (c.bE fe) d) h
 ·exact r.Mr λa es n a b c d=>RV.to (.dS b (Wd.js a h1) (c.bE fe) d) h
section
noncomputable def mu(ks:R5 (SS×VK))(W W':Wd):Prop:=∀a o,W.h.get? a=KX o->W.ah a=KX (.fs ks.length)->W'.h.get? a=KX o/\W'.ah a=KX (.fs ks.length)
theorem mu.trans(x:mu ks W W')(y:mu ks W' W''):mu ks W W'':=λa o e l=>have q:=x a o e l;y a o q.1 q.2
theorem Wd.Fk.vh(x:W.Fk W'):mu ks W W':=λa o e l=>x.seen a o _ rfl e l
theorem Wd.Mv.vh{L:aF->Prop}(x:W.Mv L W')(h:¬L (.fs ks.length)):mu ks W W':=λa o e l=>⟨x.mU e l h,(x.ah a o e).trans l⟩
theorem FR.only(F:FR S W env ks loc){i:Sf}{x:SS}{k':VK}(hk:ks[i]? =KX (x,vk))(hj:ks[j]? =KX (x,k')):j=i:=
 have e1:=(S1 ..).trans<|R6 (Uo _) hj;have e2:(ks.map (·.1))[i]? =KX x:=(S1 ..).trans (R6 (Uo _) hk)
 (X6 (List.getElem?_eq_some_iff.mp e1).1 F.nd).mp (e1.trans e2.symm)
theorem FR.lt(F:FR S W env ks loc){i:Sf}{p:SS×VK}(hk:ks[i]? =KX p):i<loc.length:=F.len▸(List.getElem?_eq_some_iff.mp hk).1
theorem FR.upd(F:FR S W env ks loc){i:Sf}{x:SS}{m':SS->Sh Se}(hk:ks[i]? =KX (x,vk))(hl:W'.ah env.locals=KX .fl)(hn:W'.h.Ns env.locals m')(new:iB S W' env m' i x sv vk)
  (old:∀j y k sv',j≠i->y≠x->ks[j]? =KX (y,k)->loc[j]? =KX sv'->iB S W' env m' j y sv' k):FR S W' env ks (loc.set i sv):=
 {F with
  len:=(UC ..).trans F.len
  ah:=hl
  sl:=⟨m',hn,λj y k' sv' hj hl=>if e:j=i then by subst e;have q:=R9<|hk.symm.trans hj;have z:=R9<|(T8<|F.lt hk).symm.trans hl;exact z▸(abc q).1▸(abc q).2▸new
   else old j y k' sv' e (λq=>e<|F.only hk (q▸hj)) hj ((T3<|Up e).symm.trans hl)⟩}
theorem qu{i:Sf}{x:SS}{Q:TZ->Sn->Prop}(hs:s.heap=W.h)(sx:St S T W env ks loc H)(hk:ks[i]? =KX (x,vk))(ho:vk=.l\/(vk=.c/\∃a,sv=.fr a))(rq:bV S W (.fs i) (λu0=> .fs i) q sv)
  (g:Ends s W (λW'=>St S T W' env ks (loc.set i sv) H/\mu ks W W') (Q ())):Sm (md S) A (X3 env x q) Q E s:=by
 have F:=sx.fr;have kn:=F.kn i x vk hk;refine rK.casesOn F.sl λm hm sl=>ho.elim (λev=> ?_) λev=>ev.2.elim λav ea=> ?_
 ·rw[ev] at hk kn
  refine wpAny_storeName_local kn (hs▸hm) (λh' hn sb=> ?_)<|F.kind▸rfl;have mv:=Wd.fG F.ah<|(R6 (λq=>SO env.locals q h') hs).mp sb;have n1:¬(aF.out=.fl):=λe=>nomatch e;refine g {s with heap:=h',toks:=s.toks+1} (W.grow h') rfl rfl rfl (mv.go n1 λu0 e=>nomatch e) ⟨⟨sx.ok.mv mv n1 (λe=>nomatch e),sx.hr.mv mv n1 λn ℓ h q=>(q▸h:aF.ofEntry n .fl),?_⟩,mv.vh λe=>nomatch e⟩;refine F.upd hk (hm.elim λo q=>q.elim λes q=>q.elim λep q=>(Wd.sI q.1).trans F.ah) hn (.at q (Sv rfl) (rq.mv mv n1 (λe=>nomatch e) λu0 e=>nomatch e)) λj y k' sv' O ny hj hl=> ?_;have old:=(sl j y k' sv' hj hl).rJ (mv.lA n1) n1 (λe=>nomatch e)<|λe=>nomatch e
  induction k' using VK.casesOn
  ·exact n7.casesOn old .un λw a b=> .at w ((SI ny).trans a) b
  ·exact old
  ·exact old
  ·exact old
 ·rw[ev.1] at hk kn
  have hl0:=S4<|F.lt hk;have old0:=sl i x .c _ hk hl0;have cl:∃c o w,env.cells.lookup x=KX c/\W.ah c=KX (.fc i)/\W.h.get? c=KX o/\o.data=.cell w:=n8.casesOn old0 (λc o v a b e O d=>⟨c,o,v,a,b,e,d⟩) λc o v O a b e u1 d u2=>⟨c,o,KX v,a,b,e,d⟩;refine cl.elim λc z=>z.elim λo z=>z.elim λw0 q0=> ?_;refine wpAny_storeName_cell F.kind kn q0.1 ⟨o,hs▸q0.2.2.1,q0.2.2.2⟩ λh' hc sb=> ?_;have sb:=(R6 (λq=>SO c q h') hs).mp sb;have mv:=Wd.fG q0.2.1 sb;have n1:¬(aF.out=.fc i):=λe=>nomatch e;refine g {s with heap:=h'} (W.grow h') rfl rfl rfl (mv.go n1 λu0 e=>nomatch e) ⟨⟨sx.ok.mv mv n1 (λe=>nomatch e),sx.hr.mv mv n1 λn ℓ h q=>(q▸h:aF.ofEntry n (.fc i)),?_⟩,mv.vh λe=>nomatch e⟩;have z:=Ns.kp (mv.lA n1) hm F.ah λe=>nomatch e;have rq':=(ea▸rq);exact F.upd hk z.2 z.1 (hc.elim λo2 e=> .at c o2 q av q0.1 ((mv.ah _ _ q0.2.2.1).trans q0.2.1) e.1 ea e.2 (rq'.mono<|mv.le n1)) λj y k' sv' ne O hj hl=>(sl j y k' sv' hj hl).rJ (mv.lA n1) n1 (λe=>nomatch e) λe=>ne<|R6 (λl:aF=>aF.casesOn (motive:=λu0=>Sf) l 0 0 id (λu0=>0) (λu0=>0) (λu0 u1=>0) (λu0 u1 u2=>0) (λu0=>0) 0) e
theorem fO{i:Sf}{x:SS}{Q:TZ->Sn->Prop}(hs:s.heap=W.h)(sx:St S T W env ks loc H)(hk:ks[i]? =KX (x,vk))(ho:vk=.l\/(vk=.c/\∃a,sv=.fr a))(rq:bV S W (.fs i) (λu0=> .fs i) q sv)
  (g:Ends s W (λW'=>St S T W' env ks (loc.set i sv) H) (Q ())):Sm (md S) A (X3 env x q) Q E s:=qu hs sx hk ho rq<|g.mono λu0 u1 x=>x.1
noncomputable def aF.nR(i:Sf)(ℓ:aF):Bool:=aF.casesOn ℓ Sj Sj (λu0=>Sj) (λj=>decide (j=i)) (λu0=>Sj) (λu0 u1=>Sj) (λu0 u1 u2=>Sj) (λu0=>Sj) Sj
theorem K6{i:Sf}{v:AV}(sx:St S T W env ks loc H)(hl:loc[i]? =KX sv)(hf:sv.frozen=KX v):
  W.Go (W.eV<|aF.nR i)/\St S T (W.eV<|aF.nR i) env ks (loc.set i<|.fr v) H:=by
 have F:=sx.fr;have kp:=W.mD<|aF.nR i;have hi:=F.len▸(List.getElem?_eq_some_iff.mp hl).1;have hk:=S4 hi;refine ⟨W.xk _ rfl λu0=>rfl,sx.ok.kp kp rfl,sx.hr.kp kp rfl (λn ℓ h=>by induction ℓ using aF.casesOn<;>first|rfl|exact h.elim),rK.casesOn F.sl λm hm sl=> ?_⟩;have z:=Ns.kp kp hm F.ah rfl;have fa:∀{a:AV},sv=.fr a->a=v:=λe=>R9<|(R6 SV.frozen e).symm.trans hf;have nu:sv≠ .un:=λe=>au<|(R6 SV.frozen e).symm.trans hf;refine F.upd hk z.2 z.1 ?_ λj y k' sv' ne O hj hl=>(sl j y k' sv' hj hl).rJ kp rfl (Un ne) rfl;have old:=sl i _ _ sv hk hl;generalize ks[i].1=x at old;generalize ks[i].2=vk at old
 induction vk using VK.casesOn
 ·exact n7.casesOn old (λe=>TL e nu) λw a b=> .at w a (bV.fr<|b.frozen hf (Sz rfl) λu0=>Sz rfl)
 ·exact n8.casesOn old (λu0 u1 u2 u3 u4 u5 e u6=>TL e nu) λc o w a c1 c2 c3 e p t=>have q:=kp.lk _ _ _ rfl c3 c2;.at c o w v c1 q.2 q.1 rfl p (fa e▸t.bE kp.toFe)
 ·exact rQ.casesOn old (λe=>TL e nu) λc o w a c1 c2 c3 e p t=>have q:=kp.lk _ _ _ rfl c3 c2;.at c o w v c1 q.2 q.1 rfl p (fa e▸t.bE kp.toFe)
 ·trivial
end
section
noncomputable def dP(e:SE):Bool:=by
 induction e using SH with
 |ListComp x y z w=>exact R8
 |SetComp x y z w=>exact R8
 |DictComp x y z w u=>exact R8
 |_=>exact Sj
def kG(ks:R5 (SS×VK))(i:Sf)(x:SS):Bool:=eD (λp=>decide (p.1=x)&&(decide (p.2=.l)||decide (p.2=.c))) ks[i]?
def cG(ks:R5 (SS×VK))(i:Sf)(x:SS):Bool:=eD (λp=>decide (p.1=x)&&decide (p.2=.l)) ks[i]?
noncomputable def uq(e:SE):Bool:=by
 induction e using SH with
 |Tuple vs x y=>exact vs.all (foldedForSure 8)||(!vs.all (constantsAlone 8)&&decide (vs.length=2))
 |_=>exact R8
noncomputable def EN(m:ME):Bool:=by
 induction m using ME.casesOn with
 |comp x y z w u=>exact R8
 |_=>exact Sj
noncomputable def mZ(m:ME):Bool:=by
 induction m using ME.casesOn with
 |c x=>exact R8
 |v x=>exact R8
 |_=>exact Sj
def HG(a:WI):Bool:=aJ (aV (λx r=>cM (aJ (cM (aJ (aJ (cM (aJ R8 a.defaults) a.kwarg) a.kw_defaults) a.kwonlyargs) a.vararg) r) x.annotation) a.args) a.posonlyargs
theorem E1{P:WI->Prop}(k:∀x p,P ⟨[],[⟨x,Sd,p⟩],Sd,[],[],Sd,[]⟩){a:WI}(h:HG a=R8):P a:=by
 cases a with|mk po ar va ko kd kw de=>
 refine ao (P:=λpo=>P ⟨po,ar,va,ko,kd,kw,de⟩) (λh=>az (P:=λar=>P ⟨[],ar,va,ko,kd,kw,de⟩) (λx r h=> ?_) h) h
 cases x with|mk x an p=>
 exact fF (P:=λan=>P ⟨[],⟨x,an,p⟩::r,va,ko,kd,kw,de⟩) (λh=>ao (P:=λr=>P ⟨[],⟨x,Sd,p⟩::r,va,ko,kd,kw,de⟩) (λh=>fF (P:=λva=>P ⟨[],[⟨x,Sd,p⟩],va,ko,kd,kw,de⟩) (λh=>ao (P:=λko=>P ⟨[],[⟨x,Sd,p⟩],Sd,ko,kd,kw,de⟩) (λh=>ao (P:=λkd=>P ⟨[],[⟨x,Sd,p⟩],Sd,[],kd,kw,de⟩) (λh=>fF (P:=λkw=>P ⟨[],[⟨x,Sd,p⟩],Sd,[],[],kw,de⟩) (λh=>ao (P:=λde=>P ⟨[],[⟨x,Sd,p⟩],Sd,[],[],Sd,de⟩) (λu0=>k x p) h) h) h) h) h) h) h
def QS(m:ME):Bool:=m.KA Sj λu0=>R8
def zM(tb:gh)(m:MS):Sh Bool:=by
 induction m using MS.casesOn with
 |gH x=>exact KX R8
 |frA o x=>exact KX<|QS o&&decide (x<tb.nm.length)
 |_=>exact Sd
noncomputable def anyM(m:MS):Bool:=by
 induction m using MS.casesOn with
 |any=>exact R8
 |_=>exact Sj
noncomputable def Hn(f:SS->WI->R5 T1->R5 SE->Sh SE->R5 TypeParam->Xk->Sh Xk->SS->Vu->Sq)(e:T1):Bool:=by
 induction e using Tv with
 |FunctionDef x y z w u v t s r q=>exact f x y z w u v t s r q
 |_=>exact Sj
theorem FG{f:SS->WI->R5 T1->R5 SE->Sh SE->R5 TypeParam->Xk->Sh Xk->SS->Vu->Sq}{P:T1->Prop}(k:∀a b c d e g h i j l,f a b c d e g h i j l=R8->P (.FunctionDef a b c d e g h i j l)){e:T1}:Hn f e=R8->P e:=by induction e using Tv<;>first|exact k _ _ _ _ _ _ _ _ _ _|exact bc
def xQ(ks:R5 (SS×VK))(i:Sf)(st:T1):Bool:=Hn (λname ar O ds rt tp scope ow bind pos=>HG ar&&(aJ (cM (aJ (cM (kG ks i name&&decide (ks[i]? =KX (name,.c))&&decide (bind=name)&&decide (name=("put_in":SS))&&decide (pos.line=83)&&decide (pos.col=4)&&
   scope.names.all (λp=>decide (p.2≠ .free)||ks.any (λq=>decide (q.1=p.1)&&decide (q.2=.c)))) ow) tp) rt) ds)) st
structure OG where
 s:R5 (SS×VK)->MS->T1->Sq
 ss:R5 (SS×VK)->R5 MS->R5 T1->Sq
section
variable(tb:gh)
def Ll(C:OG)(k:Sf)(ks:R5 (SS×VK))(m:MS)(st:T1):Bool:=MS.casesOn (motive_1:=λu0=>Sq) m
  (λe=>rY (λy121 y120=>eD (λx=>aK tb k ks e x) y121) st)
  (rY (λy123 y122=>cM (R8) y123) st)
  (λe=>lX (λx y124=> !dP x&&aK tb k ks e x) st)
  (λi e=>dc (λy127 y y126=>aV (λy128 y129=>bS (λx y125=>aJ (kG ks i x&&(!dP y||EN e)&&aK tb k ks e y) y129) y128) y127) st)
  (λt e=>dc (λy131 y y130=>aV (λy132 y133=>iD (λts c p=>aJ (!dP y&&uq y&&dX ks t (.Tuple ts c p)&&aK tb k ks e y) y133) y132) y131) st)
  (λi l=>dc (λy137 y138 y136=>aV (λy139 y140=>bS (λx y134=>aJ (jx (λes y135=>cG ks i x&&cP tb k ks l es&&decide (l.length<1000)) y138) y140) y139) y137) st)
  (λi e=>dc (λy143 y y142=>aV (λy144 y145=>bS (λx y141=>aJ (cG ks i x&&EN e&&aK tb k ks e y) y145) y144) y143) st)
  (λi a b=>dc (λy150 y151 y149=>aV (λy152 y153=>bS (λx y146=>aJ (uB (λy154 y155 z y148=>jx (λy156 y147=>aV (λy y157=>aJ (Cy (cG ks i x&&du y&&aK tb k ks a y&&aK tb k ks b z) y155) y157) y156) y154) y151) y153) y152) y150) st)
  (λi=>dc (λy161 y162 y160=>aV (λy163 y164=>bS (λx y158=>aJ (sP (λy165 y166 y159=>aJ (aJ (cG ks i x) y166) y165) y162) y164) y163) y161) st)
  (λi j a b=>dc (λy174 y175 y173=>aV (λy176 y177=>iD (λy178 y167 y168=>aV (λy179 y180=>bS (λx p1=>aV (λy181 y182=>bS (λy p2=>aJ (aJ (iD (λy183 y171 y172=>aV (λy184 y185=>jx (λes y169=>aV (λy186 y187=>jx (λfs y170=>aJ (cG ks i x&&cG ks j y&&decide (p1.line=p2.line)&&cP tb k ks a es&&cP tb k ks b fs&&decide (a.length<1000)&&decide (b.length<1000)) y187) y186) y185) y184) y183) y175) y177) y182) y181) y180) y179) y178) y176) y174) st)
  (λi j g l e=>dc (λy195 y196 y194=>aV (λy197 y198=>iD (λy199 y188 y189=>aV (λy200 y201=>bS (λx p1=>aV (λy202 y203=>bS (λy p2=>aJ (aJ (iD (λy204 y192 y193=>aV (λy205 y206=>dM (λy207 es y208 y191=>bS (λf y190=>aJ (aV (λz y209=>aJ (cG ks i x&&cG ks j y&&decide (p1.line=p2.line)&&jY tb ks g f&&du z&&cP tb k ks l es&&aK tb k ks e z) y209) y206) y208) y207) y205) y204) y196) y198) y203) y202) y201) y200) y199) y197) y195) st)
  (λo x e=>dc (λy212 y y211=>aV (λy213 y214=>bQ (λox a y210=>aJ (!dP y&&decide (tb.nm[x]? =KX a)&&aK tb k ks o ox&&aK tb k ks e y) y214) y213) y212) st)
  (λo x O=>dc (λy218 y219 y217=>aV (λy220 y221=>bQ (λox a y215=>aJ (jx (λy222 y216=>aJ (decide (tb.nm[x]? =KX a)&&aK tb k ks o ox) y222) y219) y221) y220) y218) st)
  (λo x O=>dc (λy226 y227 y225=>aV (λy228 y229=>bQ (λox a y223=>aJ (sP (λy230 y231 y224=>aJ (aJ (decide (tb.nm[x]? =KX a)&&aK tb k ks o ox) y231) y230) y227) y229) y228) y226) st)
  (λi e=>lX (λy234 y233=>dM (λy235 y236 y237 pos=>bQ (λy238 f ap=>bS (λx y232=>aV (λy y239=>aJ (aJ (cG ks i x&&cA ks i x&&decide (f=("append":SS))&&(ap.endLine==pos.line)&&du y&&aK tb k ks e y) y237) y239) y236) y238) y235) y234) st)
  (λi e=>lX (λy242 y241=>dM (λy243 y244 y245 pos=>bQ (λy246 f ap=>bS (λx y240=>aV (λy y247=>aJ (aJ (cG ks i x&&cA ks i x&&decide (f=("extend":SS))&&(ap.endLine==pos.line)&&du y&&aK tb k ks e y) y245) y247) y244) y246) y243) y242) st)
  (λj i=>dc (λy251 y252 y250=>aV (λy253 y254=>bS (λx y248=>aJ (dM (λy255 y256 y257 pos=>bQ (λy258 f ap=>bS (λy y249=>aJ (aJ (cG ks i y&&cA ks i y&&kG ks j x&&decide (f=("pop":SS))&&(ap.endLine==pos.line)) y257) y256) y258) y255) y252) y254) y253) y251) st)
  (λi kk e=>dc (λy262 y y261=>aV (λy263 y264=>eJ (λy265 z y260=>bS (λx y259=>aJ (cG ks i x&&cA ks i x&& !dP y&&du z&&mZ kk&&aK tb k ks kk z&&aK tb k ks e y) y264) y265) y263) y262) st)
  (λi kk e=>dc (λy269 y y268=>aV (λy270 y271=>eJ (λy272 z y267=>bS (λx y266=>aJ (cG ks i x&&cA ks i x&& !dP y&&du z&&aK tb k ks kk z&&aK tb k ks e y) y271) y272) y270) y269) st)
  (λo x e=>lX (λy289 y288=>dM (λy290 y291 y292 pos=>bQ (λy293 f ap=>bQ (λox a y287=>aV (λy y294=>aJ (aJ (decide (tb.nm[x]? =KX a)&&baseOk ox&&decide (f=("append":SS))&&(ap.endLine==pos.line)&&du y&&aK tb k ks o ox&&aK tb k ks e y) y292) y294) y291) y293) y290) y289) st)
  (λo x=>lX (λy298 y297=>dM (λy299 y300 y301 pos=>bQ (λy302 f ap=>bQ (λox a y295=>aV (λy303 y304=>jx (λy305 y296=>aJ (aJ (aJ (decide (tb.nm[x]? =KX a)&&baseOk ox&&decide (f=("append":SS))&&(ap.endLine==pos.line)&&aK tb k ks o ox) y301) y304) y305) y303) y300) y302) y299) y298) st)
  (λo x kk e=>lX (λy309 y308=>dM (λy310 y311 y312 pos=>bQ (λy313 f ap=>eJ (λy314 z y307=>bQ (λox a y306=>aV (λy y315=>aJ (aJ (decide (tb.nm[x]? =KX a)&&baseOk ox&&decide (f=("append":SS))&&(ap.endLine==pos.line)&&du z&&du y&&mZ kk&&mZ e&&aK tb k ks o ox&&aK tb k ks kk z&&aK tb k ks e y) y312) y315) y311) y314) y313) y310) y309) st)
  (λo x kk e=>dc (λy283 y y282=>aV (λy284 y285=>eJ (λy286 z y281=>bQ (λox a y280=>aJ (decide (tb.nm[x]? =KX a)&&baseOk ox&& !dP y&&du z&&mZ kk&&aK tb k ks o ox&&aK tb k ks kk z&&aK tb k ks e y) y285) y286) y284) y283) st)
  (λi kk e=>dc (λy276 y y275=>aV (λy277 y278=>eJ (λy279 z y274=>bS (λx y273=>aJ (cA ks i x&& !dP y&&du z&&mZ kk&&aK tb k ks kk z&&aK tb k ks e y) y278) y279) y277) y276) st)
  (λi e=>rS (λy318 y319 y y317=>bS (λx y316=>HI (kG ks i x&&cA ks i x&&aK tb k ks e y) y319) y318) st)
  (λc t e=>L7 (λx b o y320=>aK tb k ks c x&&C.ss ks t b&&C.ss ks e o) st)
  (λc b=>uG (λx bb y322 y321=>aJ (aK tb k ks c x&&C.ss ks b bb) y322) st)
  (λi b=>uG (λy327 bb y328 y326=>kN (λy329 y330 y331 y325=>bS (λx y323=>aV (λy332 y333=>z8 (aJ (aV (λy334 y335=>jx (λy336 y324=>aJ (aJ (aJ (cG ks i x&&cA ks i x&&C.ss ks b bb) y328) y335) y336) y334) y331) y333) y332) y330) y329) y327) st)
  (λt s b=>G6 (λtg it bb y338 y337=>aJ (dX ks t tg&&ir tb k ks s it&&iJ s tg&&oP s&&C.ss ks b bb) y338) st)
  (onContinue (λy339=>R8) st)
  (λi=>xQ ks i st)
  (λu0=>Sj)
  (λu0 u1=>Sj)
  Sj
def O5(k:Sf):OG:=VA ⟨λu0 u1 u2=>Sj,λu0 l sts=>Sp l (aJ R8 sts) λu0 u1=>Sj⟩
 (λk C=>⟨Ll tb C k,λks l sts=>Sp l (aJ R8 sts) λm l=>Sl (zM tb m) (aV (λst sts=>(anyM m||C.s ks m st)&&C.ss ks l sts) sts) λb=>C.ss ks l sts&&b⟩) k
def uU(k:Sf)(ks:R5 (SS×VK))(m:MS)(st:T1):Bool:=(O5 tb k).s ks m st
def cI(k:Sf)(ks:R5 (SS×VK))(l:R5 MS)(sts:R5 T1):Bool:=(O5 tb k).ss ks l sts
end
section
variable{tb:gh}{m:MS}{l:R5 MS}{P:R5 T1->Prop}
theorem vC(h:P []):cI tb k ks [] sts=R8->P sts:=by
 induction k using SW<;>exact ao λu0=>h
theorem pn(kz:∀k' b,k=k'+1->zM tb m=KX b->b=R8->cI tb k' ks l sts=R8->P sts)(kc:∀k' st sts',k=k'+1->zM tb m=Sd->(anyM m||uU tb k' ks m st)=R8->cI tb k' ks l sts'=R8->P (st::sts')):cI tb k ks (m::l) sts=R8->P sts:=by
 induction k using SW with
 |zero=>exact bc
 |succ k=>
  refine λc=>Sl (motive:=λo=>zM tb m=o->Sl o (aV (λst sts=>(anyM m||uU tb k ks m st)&&cI tb k ks l sts) sts) (λb=>cI tb k ks l sts&&b)=R8->P sts) (zM tb m) (λe c=>az (λst sts=>ae λa b=>kc k st sts rfl e a b) c) (λb e c=>ae (λa h=>kz k b rfl e h a) c) rfl c
theorem Jy(e:zM tb m=KX b)(hb:b=R8)(c:cI tb k ks l sts=R8):cI tb (k+1) ks (m::l) sts=true:=
 (R6 (λo=>Sl o (aV (λst sts=>(anyM m||uU tb k ks m st)&&cI tb k ks l sts) sts) (λb=>cI tb k ks l sts&&b)=R8) e).mpr (Bool.and_eq_true_iff.mpr ⟨c,hb⟩)
theorem Jz{st:T1}(e:zM tb m=Sd)(c1:(anyM m||uU tb k ks m st)=R8)(c:cI tb k ks l sts=R8):cI tb (k+1) ks (m::l) (st::sts)=true:=
 (R6 (λo=>Sl o (aV (λst sts=>(anyM m||uU tb k ks m st)&&cI tb k ks l sts) (st::sts)) (λb=>cI tb k ks l (st::sts)&&b)=R8) e).mpr (Bool.and_eq_true_iff.mpr ⟨c1,c⟩)
theorem CA{i:Sf}{P:T1->Prop}(k:∀name x p body scope bind pos,(kG ks i name&&decide (ks[i]? =KX (name,.c))&&decide (bind=name)&&decide (name=("put_in":SS))&&decide (pos.line=83)&&decide (pos.col=4)&&
   scope.names.all (λp=>decide (p.2≠ .free)||ks.any (λq=>decide (q.1=p.1)&&decide (q.2=.c))))=R8->P (.FunctionDef name ⟨[],[⟨x,Sd,p⟩],Sd,[],[],Sd,[]⟩ body [] Sd [] scope Sd bind pos)) {stm:T1}:xQ ks i stm=R8->P stm:=
 FG λname ar body ds rt tp scope ow bind pos=>ae λca=>ao (P:=λds=>P<|.FunctionDef name ar body ds rt tp scope ow bind pos) λc=>fF (P:=λrt=>P<|.FunctionDef name ar body [] rt tp scope ow bind pos) (λc=>ao (P:=λtp=>P<|.FunctionDef name ar body [] Sd tp scope ow bind pos) (λc=>fF (P:=λow=>P<|.FunctionDef name ar body [] Sd [] scope ow bind pos) (λc=>E1 (P:=λar=>P<|.FunctionDef name ar body [] Sd [] scope Sd bind pos) (λx p=>k name x p body scope bind pos c) ca) c) c) c
set_option tactic.hygienic true in
theorem JJ(e:zM tb m=KX b)(hb:b=R8):(∃i,m=.gH i)\/∃i x,m=.frA (.v i) x/\x<tb.nm.length:=by
 induction m using MS.casesOn<;>first
  |exact au e
  |exact .inl ⟨_,rfl⟩
  |exact ae (λa h=> .inr (by
    rename_i o x
    induction o using ME.casesOn<;>first|exact bc a|exact ⟨_,_,rfl,Sa h⟩))<|(R9 e).trans hb
theorem EE(h:anyM m=R8):m=.any:=by
 induction m using MS.casesOn<;>first|rfl|exact bc h
end
inductive r9(S:bf)(W:Wd)(v:AV):WX->Prop
 |mk {q:Se}:RV S W q v->r9 S W v (.ret q)
noncomputable def rU(S:bf)(W:Wd)(f:WX)(fl:Fl):Prop:=Fl.casesOn fl (f=.next) (f=.cont) λv=>r9 S W v f
section
variable(S:bf)(T:cU)(tb:gh)
def KY(r:Rec)(n:Sf):Prop:=∀{k:Sf} {ks:R5 (SS×VK)} {m:MS} {st:T1} {A:Vj} {s:Sn} {W:Wd} {env:Xz} {loc loc':Loc} {H H':Hp} {fl:Fl} {Q:WX->Sn->Prop} {E:Se->Sn->Prop},
 uU tb k ks m st=R8->aN A n->s.heap=W.h->St S T W env ks loc H->r.s m loc H=KX (fl,loc',H')->
 (∀f,Ends s W (λW'=>St S T W' env ks loc' H'/\rU S W' f fl)<|Q f)->Sm (md S) A (Ve st env) Q E s
def Mt(r:Rec):Prop:=∀{m:MS} {W:Wd} {env:Xz} {ks:R5 (SS×VK)} {loc loc':Loc} {H H':Hp} {fl:Fl},
 ((∃i,m=.gH i)\/∃i x,m=.frA (.v i) x/\x<tb.nm.length)->St S T W env ks loc H->r.s m loc H=KX (fl,loc',H')->
 ∃W',W'.h=W.h/\W.Go W'/\St S T W' env ks loc' H'/\fl=.nx
def jv(r:Rec)(n:Sf):Prop:=∀{l:R5 MS} {k:Sf} {ks:R5 (SS×VK)} {sts:R5 T1} {A:Vj} {s:Sn} {W:Wd} {env:Xz} {loc loc':Loc} {H H':Hp} {fl:Fl} {Q:WX->Sn->Prop} {E:Se->Sn->Prop},
 cI tb k ks l sts=R8->aN A n->s.heap=W.h->St S T W env ks loc H->bO r l loc H=KX (fl,loc',H')->
 (∀f,Ends s W (λW'=>St S T W' env ks loc' H'/\rU S W' f fl)<|Q f)->Sm (md S) A (Yc sts env) Q E s
end
end
section
theorem GX(hS:KY S T tb r n)(hZ:Mt S T tb r)(hA:∀loc H,r.s .any loc H=Sd):jv S T tb r n:=by
 intro l
 induction l with
 |nil=>exact fun{_ ks sts A s W env loc loc' H H' fl Q E} c rm hs sx h g=>vC (P:=λsts=>Sm (md S) A (Yc sts env) Q E s) (Wt<|(g .next).here hs rfl rfl rfl (n5 (a:=.nx) (P:=λfl loc' H'=>St S T W env ks loc' H'/\rU S W .next fl) ⟨sx,rfl⟩ h)) c
 |cons m l ih=>
  intro k ks sts A s W env loc loc' H H' fl Q E c rm hs sx h g;refine lU (λfl1 loc1 H1 h1 h=>pn (P:=λsts=>Sm (md S) A (Yc sts env) Q E s) (λk' b O e hb c=> ?_) (λk' st sts' O u1 c1 c2=> ?_) c) h
  ·exact(hZ (JJ e hb) sx h1).elim λW' q=>ih c rm (hs.trans q.1.symm) q.2.2.1 ((R6 (λfl1=>Fl.casesOn fl1 (bO r l loc1 H1) (KX (.ct,loc1,H1)) (λv=>KX (.rt v,loc1,H1))=KX (fl,loc',H')) q.2.2.2).mp h) λf=>(g f).after rfl rfl q.2.1
  ·refine(Bool.or_eq_true_iff.mp c1).elim (λz=>au<|(hA loc H).symm.trans (EE z▸h1)) λc1=>Uv<|hS c1 rm hs sx h1 λf ai aj a1 a2 a3 a4 a5=> ?_
   induction fl1 using Fl.casesOn with
   |nx=>exact a5.2▸ih c2 rm a1 a5.1 h λf=>(g f).after a2 a3 a4
   |ct=>exact a5.2▸n5 (a:=.ct) (P:=λfl loc' H'=>(∀f,Ends s W (λW'=>St S T W' env ks loc' H'/\rU S W' f fl)<|Q f)->Q .cont ai) (λg=>g .cont ai aj a1 a2 a3 a4 ⟨a5.1,rfl⟩) h g
   |rt v=>
    have rr:=a5.2;have sx1:=a5.1
    induction rr with
    | @mk q rq=>exact n5 (a:=.rt v) (P:=λfl loc' H'=>(∀f,Ends s W (λW'=>St S T W' env ks loc' H'/\rU S W' f fl)<|Q f)->Q (.ret q) ai) (λg=>g (.ret q) ai aj a1 a2 a3 a4 ⟨sx1,(r9.mk rq)⟩) h g
end
section
theorem xm{m:Sf}{Q:R5 Se->Sn->Prop}(hh:A.handled=Sd)(hs:s.heap=W.h)(rq:RV S W q (.tup vs)\/RV S W q (.lst vs))(hm:m=vs.length)
  (g:∀us,Grows s W (λW'=>aA S W' us vs)<|Q us):Sm (md S) A (Zb q m Sd) Q E s:=by
 have fin:∀(us:R5 Se),aA S W us vs->∀h',Heap.ExtBut s.heap.objs.size s.heap h'->Q us.toArray.toList {s with heap:=h'}:=λus ru h' he=>
  have k:=λb o e=>have e:=hs▸e;he b o (Tz<|TR e) e
  (g us).more k rfl rfl (ru.mono<|(Wd.gF k).le id);have sz:∀{us:R5 Se},aA S W us vs->us.toArray.size=m:=λc=>List.size_toArray.trans<|c.length.trans hm.symm;refine rq.elim (λrq=>rq.gy (P:=λq=>Sm (md S) A (Zb q m Sd) Q E s) λa us j e O c=> ?_) λrq=>rq.kY λa us j e O c=> ?_
 ·exact sz c▸Z1 hh (gp<|hs▸e) (fin us c)
 ·exact sz c▸kun_itemsOf hh (d7<|hs▸e) (fin us c)
theorem pQ{es:R5 SE}:du e=R8->WN (e::es) env=(Sj,Yo e env)::WN es env:=by
 induction e using SH<;>first|exact λu0=>rfl|exact bc
theorem Bl{l:R5 Tg}:∀{es:R5 SE},Dt ks l es=R8->es.length=l.length/\(WN es env).length=l.length/\(WN es env).findIdx? (·.1)=none:=by
 induction l with
 |nil=>exact λc=>ao (λu0=>⟨rfl,rfl,rfl⟩) c
 |cons t l ih=>exact λc=>az (λe es=>ae λc1 c2=>have q:=ih c2;⟨R6 (·+1) q.1,by rw[pQ (jX c1).1];exact ⟨R6 (·+1) q.2.1,List.findIdx?_cons.trans<|R6 (Uo _) q.2.2⟩⟩) c
theorem zc{ts:R5 Tg}:∀{vs:R5 AV} {loc loc':Loc},pE ts vs loc=KX loc'->ts.length=vs.length:=by
 induction ts with
 |nil=>exact fun{vs _ _} h=>Sp vs (λu0=>rfl) (λu0 u1=>au) h
 |cons t ts ih=>exact fun{vs loc loc'} h=>Sp vs au (λv vs=>kL λloc1 O h=>R6 (·+1)<|ih h) h
def xZ(S:bf)(T:cU)(ks:R5 (SS×VK))(A:Vj)(env:Xz)(H:Hp)(E:Se->Sn->Prop)(t:Tg):Prop:=∀{tg:SE} {v:AV} {loc loc':Loc} {q:Se} {s:Sn} {W:Wd} {Q:TZ->Sn->Prop},s.heap=W.h->St S T W env ks loc H->dX ks t tg=R8->gm t v loc=KX loc'->RV S W q v->
  Ends s W (λW'=>St S T W' env ks loc' H/\mu ks W W') (Q ())->Sm (md S) A (Yo tg env q) Q E s
def sR(S:bf)(T:cU)(ks:R5 (SS×VK))(A:Vj)(env:Xz)(H:Hp)(E:Se->Sn->Prop)(ts:R5 Tg):Prop:=∀{es:R5 SE} {vs:R5 AV} {loc loc':Loc} {us:R5 Se} {s:Sn} {W:Wd} {Q:TZ->Sn->Prop},s.heap=W.h->St S T W env ks loc H->Dt ks ts es=R8->pE ts vs loc=KX loc'->aA S W us vs->
  Ends s W (λW'=>St S T W' env ks loc' H/\mu ks W W') (Q ())->Sm (md S) A (ZT ((WN es env).map (·.2)) us) Q E s
theorem Oy{i:Sf}:xZ S T ks A env H E (.n i):=fun{tg v loc loc' q s W Q} hs sx c h rq g=>
 aZ (λx p c=>da (P:=λo=>ks[i]? =o->Sm (md S) A (Yo (.Name x p) env q) Q E s) (λy c e=>ae (λa b=>aR (λu0 h=>
  WY (qu hs sx (e.trans<|R6 (λz=>KX (z,y.2))<|Sa a) ((Bool.or_eq_true_iff.mp b).elim (λe=> .inl<|Sa e) λe=> .inr ⟨Sa e,v,rfl⟩) (bV.fr rq)<|(R6 (λl=>Ends s W (λW'=>St S T W' env ks l H/\mu ks W W')<|Q ())<|R9 h).mpr g)) h) c) c rfl) c
theorem MK(rm:aN A n){ts:R5 Tg}(ih:sR S T ks A env H E ts):xZ S T ks A env H E (.t ts):=fun{tg v loc loc' q s W Q} hs sx c h rq g=>
 gk (λes kk p c=>by
  have l:=Bl (env:=env) c;have key:∀vs,pE ts vs loc=KX loc'->(RV S W q (.tup vs)\/RV S W q (.lst vs))->Sm (md S) A (Yo (.Tuple es kk p) env q) Q E s:=by intro vs h rq;rw[assign_Tuple];refine R7<|TU ?_;unfold unpack;rw[l.2.1,l.2.2];exact R7<|SY<|xm rm.hd hs rq (zc h) λus ai aj a1 a2 a3 a4 a5=>ih a1 (sx.mv a4 λu0=>id) c h a5<|(g.after a2 a3<|a4.go id λu0=>id).mono λW' O x=>⟨x.1,(a4.vh id).trans x.2⟩
  exact AV.dG (λvs h rq=>key vs h<|.inl rq) h (λh rq=>AV.dH (λvs h rq=>key vs h<|.inr rq) h (λh O=>au h) rq) rq) c
theorem JG:sR S T ks A env H E []:=fun{es vs loc loc' us s W Q} hs sx c h ru g=>
 ao (λu0=>Sp vs
  (λru h=>ru.bN<|Sg<|g.here hs rfl rfl rfl ⟨R9 h▸sx,(Wd.Fk.refl W).vh⟩) (λu0 u1 u2 h=>au h) ru h) c
theorem Fx{t:Tg}{ts:R5 Tg}(h1:xZ S T ks A env H E t)(h2:sR S T ks A env H E ts):sR S T ks A env H E (t::ts):=fun{es vs loc loc' us s W Q} hs sx c h ru g=>
 az (λe es=>ae λc1 c3=>ae (λc1 c2=>Sp vs (λu0 h=>au h)
  (λv vs ru h=>ru.aU λu us r1 r2=>kL (λloc1 e1 h=>by rw[pQ c1];exact UM<|h1 hs sx c2 e1 r1 λai aj a1 a2 a3 a4 a5=>h2 a1 a5.1 c3 h (r2.mono a4.toLe)<|(g.after a2 a3 a4).mono λW' O x=>⟨x.1,a5.2.trans x.2⟩) h) ru h) c1) c
theorem Ab(rm:aN A n){t:Tg}:xZ S T ks A env H E t:=Tg.rec (motive_1:=xZ S T ks A env H E) (motive_2:=sR S T ks A env H E) (λu0=>Oy) (λu0 ih=>MK rm ih) JG (λu0 u1=>Fx) t
theorem Ep(rm:aN A n){t:Tg}{v:AV}{Q:TZ->Sn->Prop}(hs:s.heap=W.h)(sx:St S T W env ks loc H)(c:dX ks t tg=R8)(h:gm t v loc=KX loc')(rq:RV S W q v)
  (g:Ends s W (λW'=>St S T W' env ks loc' H) (Q ())):Sm (md S) A (Yo tg env q) Q E s:=Ab rm hs sx c h rq<|g.mono λu0 u1 x=>x.1
end
structure Wd.Nx(as:R5 SJ)(W W':Wd):Prop where
 keep:∀b o,W.h.get? b=KX o->b∉as->W'.h.get? b=KX o
 ah:∀b o,W.h.get? b=KX o->W'.ah b=W.ah b
 dq:W'.ρ=W.ρ
 N:W'.N=W.N
noncomputable def Wd.jH(as:R5 SJ)(W:Wd):Prop:=∀a∈as,W.ah a=KX .out/\∃o,W.h.get? a=KX o/\∀v,o.data≠ .cell v
theorem Wd.jH.ne(i:W.jH as){l:Sh aF}(e:W.ah a=l)(n:l≠KX .out):a∉as:=λm=>n<|e.symm.trans (i a m).1
section
variable(x:W.Nx as W')(i:W.jH as)
include x i
theorem Wd.Nx.fe:W.Fe W' where
 keep:=λa o e l=>x.keep a o e (i.ne l λe=>nomatch e)
 free:=λa o e l=>(x.ah a o e).trans l
 dq:=λn O=>U0 x.dq n
 N:=SA x.N.symm
theorem Wd.Nx.kp:W.Kp (·≠ .out) W':=
 ⟨x.fe i,λa o ℓ p e l=>⟨x.keep a o e<|i.ne l λe=>p<|R9 e,(x.ah a o e).trans l⟩⟩
theorem Wd.Nx.go(g:W₀.Go W)(f:∀a∈as,W₀.h.get? a=Sd):W₀.Go W' where
 keep:=λa o e l=>(x.fe i).keep a o (g.keep a o e l) (g.free a o e l)
 free:=λa o e l=>(x.fe i).free a o (g.keep a o e l) (g.free a o e l)
 dq:=λn hn=>((x.fe i).dq n<|Si hn g.N).trans (g.dq n hn)
 N:=Ss g.N (x.fe i).N
 out:=λa o e l=>(x.ah a o<|g.outk a o e l).trans (g.out a o e l)
 outk:=λa o e l=>x.keep a o (g.outk a o e l) λm=>au ((f a m).symm.trans e)
 aL:=λd n es k e l=>iS.casesOn (g.aL d n es k e l) λmore k' e' l'=>⟨more,k',x.keep _ _ e' (i.ne l' λe=>nomatch e),(x.ah _ _ e').trans l'⟩
end
structure Wd.Kf(W W':Wd):Prop extends Wd.Fe W W' where
 fr:∀a o ℓ,ℓ.bC=R8->W.h.get? a=KX o->W.ah a=KX ℓ->W'.h.get? a=KX o/\W'.ah a=KX ℓ
 ce:∀a o v,W.h.get? a=KX o->o.data=.cell v->W.ah a=KX .out->W'.h.get? a=KX o/\W'.ah a=KX .out
theorem FR.kf(mv:W.Kf W')(r:FR S W env ks loc):FR S W' env ks loc:=
 have kp:W.Kp (λℓ=>ℓ.bC=R8) W':=⟨mv.toFe,mv.fr⟩
 rK.casesOn r.sl λm hm hs=>have q:=Ns.kp kp hm r.ah rfl;{r with ah:=q.2,sl:=⟨m,q.1,λi x k sv a b=>VK.casesOn k
  (λr=>n7.casesOn r .un λv a b=> .at v a (b.kp kp rfl λu0=>rfl))
  (λr=>n8.casesOn r (λc o v a b e=>have q:=mv.fr _ _ _ rfl e b;.un c o v a q.2 q.1) λc o v y a b e p q t=>have z:=mv.fr _ _ _ rfl e b;.at c o v y a z.2 z.1 p q (t.bE mv.toFe))
  (λr=>rQ.casesOn r .un λc o v y a b e p q t=>have z:=mv.ce _ _ _ e q b;.at c o v y a z.2 z.1 p q (t.bE mv.toFe)) id (hs i x k sv a b)⟩}
theorem Wd.Nx.kf(x:W.Nx as W')(i:W.jH as):W.Kf W':=
 ⟨x.fe i,λa o ℓ p e l=>(x.kp i).lk a o ℓ (λq=>bc<|(R6 aF.bC q).symm.trans p) e l,λa o v e d l=>⟨x.keep a o e λm=>(i a m).2.elim λo' q=>q.2 v<|(R6 X9<|R9<|q.1.symm.trans e).trans d,(x.ah a o e).trans l⟩⟩
theorem St.nx(sx:St S T W env ks loc H)(x:W.Nx as W')(i:W.jH as):St S T W' env ks loc H:=
 ⟨sx.ok.kp (x.kp i) (λe=>nomatch e),sx.hr.kp (x.kp i) x.N<|λn ℓ h q=>(q▸h:aF.ofEntry n .out),sx.fr.kf<|x.kf i⟩
structure Iter(S:bf)(target:SE)(it:Se)(xs:R5 AV)(as:R5 SJ)(J:Sf->Wd->Prop)(Jm:Sf->Se->Wd->Prop):Prop where
 fR:∀{i W},J i W->W.jH as
 n6:∀{i q W},Jm i q W->W.jH as
 le:∀{i W W'},J i W->W.Le W'->J i W'
 next:∀{i:Sf} {A:Vj} {E:Se->Sn->Prop} {Q:Sh Se->Sn->Prop} {s:Sn} {W:Wd},A.handled=Sd->s.heap=W.h->J i W->
  (∀x,xs[i]? =KX x->∀q s' W',s'.heap=W'.h->s'.gens=s.gens->s'.os=s.os->W.Nx as W'->Jm i q W'->RV S W' q x->Q (KX q) s')->
  (xs[i]? =Sd->∀s' W',s'.heap=W'.h->s'.gens=s.gens->s'.os=s.os->W.Nx as W'->Q Sd s')->Sm (md S) A (aab it) Q E s
 go:∀{i:Sf} {q:Se} {A:Vj} {E:Se->Sn->Prop} {Q:TZ->Sn->Prop} {s:Sn} {W:Wd},s.heap=W.h->Jm i q W->
  (∀s' W',s'.heap=W'.h->s'.gens=s.gens->s'.os=s.os->W.Nx as W'->J (i+1) W'->Q () s')->Sm (md S) A (Wu target it q) Q E s
 self:∀{i:Sf} {A:Vj} {E:Se->Sn->Prop} {Q:Se->Sn->Prop} {s:Sn} {W:Wd},A.handled=Sd->s.heap=W.h->J i W->Q it s->Sm (md S) A (WJ it) Q E s
section
structure eU(s:Sn)(W:Wd)(s':Sn)(W':Wd):Prop where
 heap:s'.heap=W'.h
 gens:s'.gens=s.gens
 os:s'.os=s.os
 go:W.Go W'
theorem eU.trans{s1 s2:Sn}{W1 W2:Wd}(x:eU s W s1 W1)(y:eU s1 W1 s2 W2):eU s W s2 W2:=⟨y.heap,y.gens.trans x.gens,y.os.trans x.os,x.go.trans y.go⟩
theorem eU.nx{s1 s2:Sn}{W1 W2:Wd}(x:eU s W s1 W1)(h:s2.heap=W2.h)(g:s2.gens=s1.gens)(o:s2.os=s1.os)(y:W1.Nx as W2)(i:W1.jH as)(f:∀a∈as,W.h.get? a=Sd):eU s W s2 W2:=⟨h,g.trans x.gens,o.trans x.os,y.go i x.go f⟩
inductive AQ(S:bf)(T:cU)(s:Sn)(W:Wd)(env:Xz)(ks:R5 (SS×VK))(H:Hp->Loc->R5 AV->Prop)(J:Sf->Wd->Prop)(xs:R5 AV)(m:Sf)(s':Sn):Prop
 |mk (i:Sf) (W':Wd) (loc1:Loc) (H1:Hp):eU s W s' W'->J i W'->St S T W' env ks loc1 H1->H H1 loc1 (xs.drop i)->m=xs.length+1-i->AQ S T s W env ks H J xs m s'
set_option tactic.hygienic true in
theorem FY(hSs:jv S T tb r n)(rm:aN A n){t:Tg}{b:R5 MS}(I:Iter S tg it xs as J Jm)(hf:∀a∈as,W.h.get? a=Sd)
  (ct:dX ks t tg=R8) (cb:cI tb k ks b bb=R8) (hs:ai.heap=aj.h) (hg:ai.gens=s.gens) (ho:ai.os=s.os) (go:W.Go aj) (sx:St S T aj env ks loc H) (j:J 0 aj) (h:forL r t b xs loc H=KX (fl,loc',H'))
  (g:∀f,Ends s W (λW'=>St S T W' env ks loc' H'/\rU S W' f fl)<|λs'=>R (.ok f) s'):Um (md S) A (.forLoop tg it bb [] env) R ai:=by
 refine codeAny_forLoop_any (AQ S T s W env ks (λH1 loc1 l=>forL r t b l loc1 H1=KX (fl,loc',H')) J xs) ?_ (xs.length+1)<|.mk 0 aj loc H ⟨hs,hg,ho,go⟩ j sx h rfl;refine λm s' hi=>AQ.casesOn hi λi W' loc1 H1 a a5 a6 a7 em=> ?_;refine I.next rm.hd a.heap a5 (λx hx q s2 W2 b1 b2 b3 b4 b5 b6=> ?_) λhx s2 W2 b1 b2 b3 b4=> ?_
 ·have lt:=List.getElem?_eq_some_iff.mp hx
  have aa:=a.nx b1 b2 b3 b4 (I.fR a5) hf;refine I.go b1 b5 λs3 W3 c1 c2 c3 c4 c5=> ?_;have aa:=aa.nx c1 c2 c3 c4 (I.n6 b5) hf;refine lt.elim λlt ex=>bG (λloc2 h2 h=>lU (λfl2 loc3 H3 h3 h=>Ep rm c1 ((a6.nx b4<|I.fR a5).nx c4<|I.n6 b5) ct h2 (b6.bE<|c4.fe<|I.n6 b5) λs4 W4 d1 d2 d3 d4 d5=>hSs cb rm d1 d5 h3 λf s5 W5 e1 e2 e3 e4 e5=> ?_) h)
   ((R6 (λl=>forL r t b l loc1 H1=KX (fl,loc',H')) ((Y5 lt).trans (R6 (·::xs.drop (i+1)) ex))).mp a7);have aa:=(aa.trans ⟨d1,d2,d3,d4⟩).trans ⟨e1,e2,e3,e4⟩;have sx1:=e5.1;have e5:=e5.2;have next:forL r t b (xs.drop<|i+1) loc3 H3=KX (fl,loc',H')->∃m',m'<m/\AQ S T s W env ks (λH1 loc1 l=>forL r t b l loc1 H1=KX (fl,loc',H')) J xs m' s5:=
   λh=>⟨xs.length+1-(i+1),em▸Z4 (UD lt) (T5 i),.mk (i+1) W5 loc3 H3 aa (I.le c5 (d4.trans e4).toLe) sx1 h rfl⟩
  induction fl2 using Fl.casesOn with
  |nx=>have e5:=e5;subst e5;exact next h
  |ct=>have e5:=e5;subst e5;exact next h
  |rt v=>
   have rr:=e5
   induction rr with
   | @mk q rq=>exact n5 (a:=.rt v) (P:=λfl loc' H'=>(∀f,Ends s W (λW'=>St S T W' env ks loc' H'/\rU S W' f fl)<|λs'=>R (.ok f) s')->R (.ok<|.ret q) s5) (λg=>g (.ret q) s5 W5 e1 aa.gens aa.os aa.go ⟨sx1,(r9.mk rq)⟩) h g
 ·have aa:=a.nx b1 b2 b3 b4 (I.fR a5) hf
  have e:=Zs<|List.getElem?_eq_none_iff.mp hx;exact Wt<|n5 (a:=.nx) (P:=λfl loc' H'=>(∀f,Ends s W (λW'=>St S T W' env ks loc' H'/\rU S W' f fl)<|λs'=>R (.ok f) s')->R (.ok .next) s2) (λg=>g .next s2 W2 b1 aa.gens aa.os aa.go ⟨a6.nx b4<|I.fR a5,rfl⟩) ((R6 (λl=>forL r t b l loc1 H1=KX (fl,loc',H')) e).mp a7) g
end
theorem Fp{target:SE}{nm:WO}{Q:TZ->Sn->Prop}(ho:s.heap.get? I=KX o)(hc:o.cls=.type nm)
  (hn:["enumerate","zip","dict_itemiterator","dict_reverseitemiterator","odict_iterator","itertools.zip_longest","itertools.pairwise"].contains nm=Sj) (h:Q () s):Sm M A (Wu target (.ref I) q) Q E s:=by
 have key:∀a,Sm M A (do
   let o←load I
   match o.cls,o.data with
   |.type n,.fields vs=>
    if ["enumerate","zip","dict_itemiterator","dict_reverseitemiterator","odict_iterator","itertools.zip_longest","itertools.pairwise"].contains n&&vs[0]? ==KX (UN a) then
     rule "for.unpacks-the-owned-tuple"
     updateField I 0 .none
   |_,_=>pure ():Sem TZ) Q E s:=by
  intro a;refine R7<|wpAny_load ho ?_;rw[hc];generalize o.data=d
  induction d using Wo<;>first|exact Sg h|skip
  refine bM (by rw[hn,Bool.false_and];decide) ?_;exact Sg h
 induction target using SH<;>first|exact Sg h|(induction q using V3<;>first|exact Sg h|exact key _)
structure JW(I:SJ)(m:Sf)(fp:R5 SJ)(C:Wd->Prop)(St:Sf->Tu->Prop)(i:Sf)(W:Wd):Prop where
 le:i<=m
 st:St i W.h
 at_:∀b∈fp,∃o,W.h.get? b=KX o/\(W.ah b=Sd\/W.ah b=KX .out)
 ah:W.ah I=KX .out
 c:C W
theorem Wd.Nx.grow(k:∀b o,b∉as->W.h.get? b=KX o->h'.get? b=KX o):W.Nx as (W.grow h'):=⟨λb o e nb=>k b o nb e,λu0 u1 e=>Wd.sI e,rfl,rfl⟩
theorem Wd.Nx.refl(W:Wd)(as:R5 SJ):W.Nx as W:=⟨λu0 u1 e u2=>e,λu0 u1 u2=>rfl,rfl,rfl⟩
theorem Wd.jH.one(l:W.ah a=KX .out)(e:W.h.get? a=KX o)(n:∀v,o.data≠ .cell v):W.jH [a]:=λb hb=>have q:=List.mem_singleton.mp hb;q▸⟨l,o,e,n⟩
set_option tactic.hygienic true in
theorem oU{target:SE}{fp:R5 SJ}{m:Sf}{Pi:Sf->Se->Prop}{St:Sf->Tu->Prop}{nm:WO}{C:Wd->Prop}
  (hw:∀A:Vj,A.handled=Sd->Walks S.prog S.w A I fp [I] m Pi St) (hm:m=xs.length)
  (hcl:∀i h,St i h->∃o,h.get? I=KX o/\o.cls=.type nm/\∀v,o.data≠ .cell v)
  (hn:["enumerate","zip","dict_itemiterator","dict_reverseitemiterator","odict_iterator","itertools.zip_longest","itertools.pairwise"].contains nm=Sj)
  (hC:∀W W',W.Fe W'->C W->C W') (hP:∀i q x W,C W->Pi i q->xs[i]? =KX x->RV S W q x):
  Iter S target (.ref I) xs [I] (JW I m fp C St) (λi O W=>JW I m fp C St (i+1) W):=
 have fR:∀{i W},JW I m fp C St i W->W.jH [I]:=λj=>(hcl _ _ j.st).elim λo q=> .one j.ah q.1 q.2.2
 {fR:=fR
  n6:=fR
  le:=fun{i W W'} j le=>
   have kp:=λb hb o e=>(j.at_ b hb).elim λo' q=>q.2.elim (le.keep b o e) (le.outk b o e)
   ⟨j.le,(hw {} rfl).frame i _ _ j.st kp,λb hb=>(j.at_ b hb).elim λo' q=>⟨o',kp b hb o' q.1,q.2.imp (le.free b o' q.1)<|le.out b o' q.1⟩,(hcl i _ j.st).elim λo q=>le.out I o q.1 j.ah,hC _ _ le.toFe j.c⟩
  next:=fun{i A E Q s W} hh hs j hsome hnone=>by
   have st:=hs▸j.st
   by_cases hi:i<m
   ·refine(hw A hh).item i s _ _ hi st λq h' tk p st' hk=> ?_
    have x:W.Nx [I] (W.grow h'):=.grow λb o nb e=>hk b o nb<|hs▸e;have hx:=S4<|hm▸hi;have c':=hC _ _ (x.fe<|fR j) j.c;refine hsome _ hx q {s with heap:=h',toks:=tk} (W.grow h') rfl rfl rfl x ⟨hi,st',λb hb=>(j.at_ b hb).elim λo' q=> ?_,(hcl i _ j.st).elim λo q=>(x.ah I o q.1).trans j.ah,c'⟩ (hP i q _ _ c' p hx);have l:=(x.ah b o' q.1).symm▸q.2
    by_cases hbI:b=I
    ·exact(hcl _ _ st').elim λo2 q2=>⟨o2,hbI▸q2.1,l⟩
    ·exact ⟨o',x.keep b o' q.1 λz=>hbI<|List.mem_singleton.mp z,l⟩
   ·have e:=U7 j.le<|Nat.not_lt.mp hi
    exact(hw A hh).done s _ _ (e▸st) λh' tk hk=>hnone (TY<|hm▸e▸SN _) {s with heap:=h',toks:=tk} (W.grow h') rfl rfl rfl (.grow λb o nb e=>hk b o nb<|hs▸e)
  go:=fun{i q A E Q s W} hs j h=>(hcl (i+1) _ j.st).elim λo e=>Fp (hs▸e.1) e.2.1 hn (h s W hs rfl rfl (.refl W _) j)
  self:=fun{i A E Q s W} hh hs j h=>(hw A hh).self i s _ _ (hs▸j.st) h}
section
theorem MF{h:Tu}{i:Sf}{vs:Td Se}(st:h.IsListIter I ax i/\h.IsList ax vs):∃o,h.get? I=KX o/\o.cls=.type "list_iterator"/\∀v,o.data≠ .cell v:=st.1.elim λo q=>⟨o,q.1,q.2.1,λv e=>nomatch q.2.2.symm.trans e⟩
theorem MJ{h:Tu}{i:Sf}{vs:Td Se}(st:h.IsTupleIter I ax i/\h.IsTuple ax vs):∃o,h.get? I=KX o/\o.cls=.type "tuple_iterator"/\∀v,o.data≠ .cell v:=st.1.elim λo q=>⟨o,q.1,q.2.1,λv e=>nomatch q.2.2.symm.trans e⟩
theorem DX{vs:R5 Se}{i:Sf}{x:AV}(c:aA S W vs xs)(p:vs[i]? =KX q)(hx:xs[i]? =KX x):RV S W q x:=(c.get hx).elim λv e=>R9 (e.1.symm.trans p)▸e.2
theorem vM(S:bf)(target:SE)(hne:ax≠I)(vs:R5 Se)(xs:R5 AV)(hl:vs.length=xs.length):
  Iter S target (.ref I) xs [I] (JW I vs.length [I,ax] (λW=>aA S W vs xs)<|λi h=>h.IsListIter I ax i/\h.IsList ax vs.toArray) (λi O W=>JW I vs.length [I,ax] (λW=>aA S W vs xs) (λi h=>h.IsListIter I ax i/\h.IsList ax vs.toArray) (i+1) W):=
 oU (λA hh=>Walks.list hh I ax hne vs.toArray) hl (λu0 u1 st=>MF st) (by decide) (λW W' fe c=>c.bE fe) (λi q x W c p hx=>DX c (V2▸p) hx)
theorem iter_tuple(S:bf)(target:SE)(hne:ax≠I)(vs:R5 Se)(xs:R5 AV)(hl:vs.length=xs.length):
  Iter S target (.ref I) xs [I] (JW I vs.length [I,ax] (λW=>aA S W vs xs)<|λi h=>h.IsTupleIter I ax i/\h.IsTuple ax vs.toArray) (λi O W=>JW I vs.length [I,ax] (λW=>aA S W vs xs) (λi h=>h.IsTupleIter I ax i/\h.IsTuple ax vs.toArray) (i+1) W):=
 oU (λA hh=>Walks.tuple hh I ax hne vs.toArray) hl (λu0 u1 st=>MJ st) (by decide) (λW W' fe c=>c.bE fe) (λi q x W c p hx=>DX c (V2▸p) hx)
theorem AH{m i:Sf}{x:AV}(hx:(fZ (m:SK))[i]? =KX x):x=.int i:=
 bI (λj hj e=>e.symm.trans<|(List.getElem?_eq_some_iff.mp hj).elim λlt q=>R6 (λj:Sf=>AV.int j)<|q.symm.trans (List.getElem_range lt)) ((S1 ..).symm.trans hx)
theorem Au(S:bf)(target:SE)(I:SJ)(m:Sf):
  Iter S target (.ref I) (fZ (m:SK)) [I] (JW I m [I] (λu0=>Y2)<|λi h=>aaV h I (0+(i:Sf)*1) ((m:SK)-(i:Sf)) 1) (λi O W=>JW I m [I] (λu0=>Y2) (λi h=>aaV h I (0+(i:Sf)*1) ((m:SK)-(i:Sf)) 1) (i+1) W):=
 oU (λA hh=>Walks.range hh I 0 1 m) (by simp[fZ])
  (λi h st=>⟨_,st,rfl,λv q=>nomatch q⟩) (by decide) (λu0 u1 u2 u3=>trivial)
  (λi q x W O p hx=>p.elim λt e=>e▸AH hx▸(R6 (λn=>RV S W (.int n t)<|.int i)<|(Wq _).trans<|Int.mul_one _).mpr .int)
theorem vR(j:Sf)(xs:R5 AV)(i:Sf):(jz j xs)[i]? =(xs[i]?).map λx=> .tup [.int ((j+i:Sf):SK),x]:=by
 induction xs generalizing i j with
 |nil=>rfl
 |cons x xs ih=>exact SW i rfl λi=>(ih (j+1) i).trans<|R6 (λn:Sf=>(xs[i]?).map λx=>AV.tup [.int n,x])<|WR j i
structure G8(S:bf)(e it l:SJ)(vs:R5 Se)(xs:R5 AV)(i:Sf)(W:Wd):Prop where
 C9:W.h.IsListIter it l i
 sl:W.h.IsList l vs.toArray
 le:W.ah e=KX .out
 li:W.ah it=KX .out
 ll:W.ah l=Sd\/W.ah l=KX .out
 rv:aA S W vs xs
structure JE(S:bf)(e it l:SJ)(vs:R5 Se)(xs:R5 AV)(i:Sf)(W:Wd):Prop extends G8 S e it l vs xs i W where
 en:∃old,IsEnum W.h e it (i:SK) old
structure O0(S:bf)(e it l:SJ)(vs:R5 Se)(xs:R5 AV)(i:Sf)(q:Se)(W:Wd):Prop extends G8 S e it l vs xs (i+1) W where
 en:∃x a,q=.ref a/\IsEnumOut W.h e it ((i:SK)+1) x a
theorem G8.fR{e it l:SJ}{vs:R5 Se}{i:Sf}(j:G8 S e it l vs xs i W)(h:W.h.get? e=KX o)(n:∀v,o.data≠ .cell v):W.jH [e,it]:=λa ha=>
 (List.mem_cons.mp ha).elim (λq=>q▸⟨j.le,o,h,n⟩) (λm=>j.C9.elim λo q=>Wd.jH.one j.li q.1 (λv z=>nomatch q.2.2.symm.trans z) a m)
set_option tactic.hygienic true in
theorem Cv(S:bf){e it l:SJ}(h1:e≠it)(h2:l≠e)(h3:l≠it)(vs:R5 Se)(xs:R5 AV)(hl:vs.length=xs.length):
  Iter S (.Tuple ts c p) (.ref e) (jz 0 xs) [e,it] (JE S e it l vs xs) (O0 S e it l vs xs):=
 have fR:∀{i W},JE S e it l vs xs i W->W.jH [e,it]:=λj=>j.en.elim λu0 q=>j.fR q λv z=>nomatch z;have n6:∀{i q W},O0 S e it l vs xs i q W->W.jH [e,it]:=λj=>j.en.elim λu0 q=>q.elim λu0 q=>j.fR q.2 λv z=>nomatch z;have ne:∀{b:SJ},b∉ [e,it]->b≠e/\b≠it:=λn=>⟨λq=>n<|q▸ .head _,λq=>n<|q▸ .tail _ (.head _)⟩
 {fR:=fR
  n6:=n6
  le:=fun{i W W'} j le=>j.en.elim λold j1=>j.C9.elim λo j2=>j.sl.elim λo3 j3=>
   ⟨⟨⟨o,le.outk _ _ j2.1 j.li,j2.2⟩,⟨o3,j.ll.elim (le.keep _ _ j3.1)<|le.outk _ _ j3.1,j3.2⟩,le.out _ _ j1 j.le,le.out _ _ j2.1 j.li,j.ll.imp (le.free _ _ j3.1)<|le.out _ _ j3.1,j.rv.mono le⟩,old,le.outk _ _ j1 j.le⟩
  next:=fun{i A E Q s W} hh hs j hsome hnone=>j.en.elim λold j1=>by
   have j1':=hs▸j1;have j2:=hs▸j.C9;have j3:=hs▸j.sl;refine Sl (motive:=λo=>xs[i]? =o->Sm (md S) A (aab<|.ref e) Q E s) xs[i]? (λhx=> ?_) (λx hx=>(j.rv.get hx).elim λv ev=> ?_) rfl
   ·refine wpAny_pyNext_enum_end hh j1' j2 j3 (List.getElem?_toArray.trans<|TY<|hl▸List.getElem?_eq_none_iff.mp hx) λh' he=> ?_
    exact hnone ((vR ..).trans<|R6 (Uo _) hx) {s with heap:=h'} (W.grow h') rfl rfl rfl (.grow λb o nb eb=>he b o (ne nb).2<|hs▸eb)
   ·refine wpAny_pyNext_enum_item j1' j2 j3 (List.getElem?_toArray.trans ev.1) h1 λh' k1 k2 k3 k4 k5=> ?_
    have nx:W.Nx [e,it] (W.grow h'):=.grow λb o nb eb=>k5 b o (ne nb).1 (ne nb).2<|hs▸eb;have fe:=nx.fe<|fR j;have fr:W.h.get? s.heap.objs.size=none:=hs▸bz (SN _);exact j.sl.elim λol jl=>j.C9.elim λoi ji=>hsome _ ((vR ..).trans<|R6 (Uo _) hx) (.ref s.heap.objs.size) {s with heap:=h',toks:=s.toks+1} (W.grow h') rfl rfl rfl nx
     ⟨⟨k2,⟨ol,k5 l ol h2 h3<|hs▸jl.1,jl.2⟩,(nx.ah _ _ j1).trans j.le,(nx.ah _ _ ji.1).trans j.li,(nx.ah _ _ jl.1).symm▸j.ll,j.rv.bE fe⟩,v,_,rfl,k1⟩
     (.tup k3 (Wd.d6 fr)<|aA.cons ((R6 (λn:Sf=>RV S (W.grow h') (.int i s.toks)<|.int n)<|SX i).mpr .int)<|aA.cons (ev.2.bE fe) aA.nil)
  go:=fun{i q A E Q s W} hs j h=>j.en.elim λx z=>z.elim λa z=>z.1▸wpAny_letOwnedTupleGo_enum (hs▸z.2) λh' k1 sb=>by
   have sb:=(R6 (λq=>SO e q h') hs).mp sb;have nx:W.Nx [e,it] (W.grow h'):=.grow λb o nb eb=>(sb.2 b (ne nb).1).trans eb;exact j.sl.elim λol jl=>j.C9.elim λoi ji=>h {s with heap:=h'} (W.grow h') rfl rfl rfl nx
    ⟨⟨⟨oi,(sb.2 it<|Up h1).trans ji.1,ji.2⟩,⟨ol,(sb.2 l h2).trans jl.1,jl.2⟩,(nx.ah _ _ z.2).trans j.le,(nx.ah _ _ ji.1).trans j.li,(nx.ah _ _ jl.1).symm▸j.ll,j.rv.bE<|nx.fe<|n6 j⟩,x,k1⟩
  self:=fun{i A E Q s W} hh hs j h=>j.en.elim λold j1=>wpAny_pyIter_enum (hs▸j1) h}
end
noncomputable def Wd.jI(W:Wd)(h:Tu):Wd:={W with h:=h,ah:=λb=>if(W.h.get? b).isSome then W.ah b else KX .out}
theorem Wd.jq{h:Tu}(ha:W.h.get? a=KX o):(W.jI h).ah a=W.ah a:=Sv<|ha▸rfl
theorem Wd.lW{h:Tu}(k:∀a o,W.h.get? a=KX o->h.get? a=KX o):W.Mv iz (W.jI h):=
 ⟨λa o e O=>k a o e,λu0 u1 e=>Wd.jq e,rfl,rfl⟩
theorem Wd.fy{h:Tu}(ha:W.h.get? a=Sd):(W.jI h).ah a=KX .out:=SI<|ha▸SR
theorem bk{h:Tu}(k:∀a o,h.get? a=KX o->h'.get? a=KX o)(a:SJ)(e:h'.get? a=Sd):h.get? a=none:=Option.eq_none_iff_forall_ne_some.mpr λo q=>oA<|(k a o q).symm.trans e
theorem lS(env:Xz)(x:Se):du e=R8->foldedSetIterable e env x=pure x:=by
 induction e using SH<;>first|exact λu0=>rfl|exact bc
theorem Eh(l:R5 AV):∀j,(jz j l).length=l.length:=by
 induction l with
 |nil=>exact λu0=>rfl
 |cons x xs ih=>exact λj=>R6 (·+1)<|ih _
section
def sC(S:bf)(T:cU)(env:Xz)(ks:R5 (SS×VK))(loc:Loc)(H':Hp)(tg:SE)(xs:R5 AV)(s:Sn)(W:Wd)(G:Se->Sn->Prop):Prop:=
 ∀it as J Jm aX aT,aX.heap=aT.h->aX.gens=s.gens->aX.os=s.os->W.Fk aT->St S T aT env ks loc H'->Iter S tg it xs as J Jm->J 0 aT->(∀a∈as,W.h.get? a=Sd)->(∀a,aT.h.get? a=Sd->W.h.get? a=Sd)->xs.length<=1000->G it aX
theorem B9(hs:s.heap=W.h)(sx:St S T W env ks loc H'){ob:Xl}{m:Sf}{C:Wd->Prop}{St':Sf->Tu->Prop}(z:aw xs.length=R8)(nf:o.isFreed=Sj)(a:W.h.get? ax=KX ob)(b:W.ah ax=Sd)
  (I:Iter S tg (.ref s.heap.objs.size) xs [s.heap.objs.size] (JW s.heap.objs.size m [s.heap.objs.size,ax] C St') (λi O W=>JW s.heap.objs.size m [s.heap.objs.size,ax] C St' (i+1) W)) (st:(s.heap.push o).get? s.heap.objs.size=KX o->(s.heap.push o).get? ax=KX ob->St' 0 (s.heap.push o)) (c:∀W',W.Le W'->C W')
  (g:sC S T env ks loc H' tg xs s W G):G (.ref s.heap.objs.size) {s with heap:=s.heap.push o}:=
 have kp:=λb o' e=>bZ b o'<|hs▸e;have fr:=hs▸bz (SN _);have mv:=Wd.lW kp;have pz:=SD s.heap nf
 g _ _ _ _ {s with heap:=s.heap.push o} (W.jI _) rfl rfl rfl (mv.fk id (λu0=>id) λu0 u1=>id) (sx.mv mv λu0=>id) I
  ⟨Ui _,st pz<|kp _ _ a,λb' hb=>(List.mem_cons.mp hb).elim (λq=>⟨o,q▸pz,.inr<|q▸Wd.fy fr⟩) λhb=>⟨ob,List.mem_singleton.mp hb▸kp _ _ a,.inl<|List.mem_singleton.mp hb▸(Wd.jq a).trans b⟩,Wd.fy fr,c _<|mv.le id⟩
  (λa' ha=>List.mem_singleton.mp ha▸fr) (bk kp) (SQ<|cJ z)
theorem Kz(hs:s.heap=W.h)(sx:St S T W env ks loc H')(z:aw xs.length=R8)(rq:RV S W q (.tup xs)\/RV S W q (.lst xs))
  (g:sC S T env ks loc H' tg xs s W G):Sm (md S) A (WJ q) G E s:=by
 have fr:W.h.get? s.heap.objs.size=none:=hs▸bz (SN _);have ne:∀{ax:SJ} {ob:Xl},W.h.get? ax=KX ob->ax≠s.heap.objs.size:=λa e=>oA<|a.symm.trans (e▸fr);refine rq.elim (λrq=>rq.gy (P:=λq=>Sm (md S) A (WJ q) G E s) λax vs j a b c=> ?_) λrq=>rq.kY λax vs j a b c=> ?_
 ·exact Yk (gp<|hs▸a)<|B9 hs sx z rfl a b (iter_tuple S tg (ne a) vs xs c.length) (λe1 e2=>⟨⟨_,e1,rfl,rfl⟩,⟨_,e2,rfl,j,rfl⟩⟩) (λW' le=>c.mono le) g
 ·exact YE (d7<|hs▸a)<|B9 hs sx z rfl a b (vM S tg (ne a) vs xs c.length) (λe1 e2=>⟨⟨_,e1,rfl,rfl⟩,⟨_,e2,rfl,j,rfl⟩⟩) (λW' le=>c.mono le) g
theorem FK(hs:s.heap=W.h)(sx:St S T W env ks loc H'){i:SK}(z:i<1000)(zl: -(2^62)<=i)(g:sC S T env ks loc H' tg (fZ i) s W G):
  Sm (md S) A (Wv (.type "range") [.int i t]) (λx ai=>Sm (md S) A (WJ x) G E ai) E s:=by
 refine call_range_1 ?_;refine wpAny_pyIter_range (IsRange.new _ _ _ _ _ _ _) (small_one (by decide) (by decide) zl<|VF ‹_› (by decide)) ?_;rw[rangeSize_one];have e1:(if 0<i then i-0 else 0)=(i.toNat):=by
  split
  ·exact(Int.sub_zero i).trans (Z6<|Wr ‹_›).symm
  ·exact R6 Int.ofNat (Int.toNat_of_nonpos<|Int.not_lt.mp ‹_›).symm
 rw[e1];have e2:fZ i=fZ (i.toNat):=by unfold fZ;rw[UE]
 rw[e2] at g;have kp:∀(x y:Xl) b o,W.h.get? b=KX o->((s.heap.push x).push y).get? b=KX o:=λx y b o e=>bZ b o<|bZ b o (by rw[hs];exact e);have fr2:W.h.get? (s.heap.objs.size+1)=none:=by rw[hs];exact bz<|Tn _
 have mv:=Wd.lW<|kp {cls:=.type "range",data:=.fields #[.int 0 s.toks,.int i t,.int 1<|s.toks+1]} {cls:=.type "range_iterator",data:=.fields #[UN 0,UN<|i.toNat,UN 1]};have hz:(s.heap.push {cls:=.type "range",data:=.fields #[.int 0 s.toks,.int i t,.int 1<|s.toks+1]}).objs.size=s.heap.objs.size+1:=T9 ..;rw[hz];refine g _ _ _ _ {s with heap:=(s.heap.push {cls:=.type "range",data:=.fields #[.int 0 s.toks,.int i t,.int 1<|s.toks+1]}).push {cls:=.type "range_iterator",data:=.fields #[UN 0,UN<|i.toNat,UN 1]},toks:=s.toks+1+1} (W.jI _) rfl rfl rfl (mv.fk id (λu0=>id) λu0 u1=>id) (sx.mv mv λu0=>id) (Au S tg (s.heap.objs.size+1) i.toNat) ?_ (λa' ha=>by rw[Ud] at ha;subst ha;exact fr2) (bk<|kp _ _) (by unfold fZ;simp;lia);have at_:((s.heap.push {cls:=.type "range",data:=.fields #[.int 0 s.toks,.int i t,.int 1<|s.toks+1]}).push {cls:=.type "range_iterator",data:=.fields #[UN 0,UN<|i.toNat,UN 1]}).get? (s.heap.objs.size+1)=KX {cls:=.type "range_iterator",data:=.fields #[UN 0,UN<|i.toNat,UN 1]}:=by rw[←hz];exact SD _ rfl
 refine ⟨Ui _,?_,λb' hb=> ?_,Wd.fy fr2,trivial⟩
 ·show aaV _ _ _ _ _
  have e3:0+((0:Sf):SK)*1=0:=by simp
  have e4:(i.toNat)-((0:Sf))=(i.toNat:SK):=by simp
  rw[e3,e4];exact at_
 ·rw[Ud] at hb;subst hb
  exact ⟨_,at_,.inr<|Wd.fy fr2⟩
theorem II(hs:s.heap=W.h)(sx:St S T W env ks loc H')(z:aw l.length=R8)(rq:RV S W q (.lst l))(g:sC S T env ks loc H' (.Tuple ts c p) (jz 0 l) s W G):
  Sm (md S) A (Wv (.type "enumerate") [q]) (λx ai=>Sm (md S) A (WJ x) G E ai) E s:=by
 refine rq.kY λax vs j a b c'=>call_enumerate_1 (hs▸a) λh' k1 k2 k3 k4=>wpAny_pyIter_enum k1 ?_;have fr:W.h.get? s.heap.objs.size=none:=hs▸bz (SN _);have fr2:W.h.get? (s.heap.objs.size+1)=none:=hs▸bz (Tn _);have k4:=hs▸k4;have mv:=Wd.lW k4;exact g _ _ _ _ {s with heap:=h'} (W.jI h') rfl rfl rfl (mv.fk id (λu0=>id) λu0 u1=>id) (sx.mv mv λu0=>id) (Cv S (Ys _) (λe=>oA<|a.symm.trans ((R6 (λb=>W.h.get? b) e).trans fr2)) (λe=>oA<|a.symm.trans ((R6 (λb=>W.h.get? b) e).trans fr)) vs l c'.length)
  ⟨⟨k2,⟨_,k4 _ _ a,rfl,j,rfl⟩,Wd.fy fr2,Wd.fy fr,.inl<|(Wd.jq a).trans b,c'.mono<|mv.le id⟩,_,k1⟩
  (λa' ha=>(List.mem_cons.mp ha).elim (λq=>q▸fr2) λha=>List.mem_singleton.mp ha▸fr) (bk k4) (Eh l 0▸SQ (cJ z))
theorem Hy(st:bU S T P tb)(he:bH S T tb r n)(rm:aN A n)(hs:s.heap=W.h)(sx:St S T W env ks loc H){x:SS}{ty:WO}{a:ME}{u:AV}(cg:eP ks x=R8)(m1:T.mg x=Sd)(m2:T.mb x=KX (.type ty))(oy:du y=R8)(ca:aK tb k ks a y=R8)
  (h1:r.e a loc H=KX (u,H')) (g:∀q ai aj,ai.heap=aj.h->ai.gens=s.gens->ai.os=s.os->W.Fk aj->St S T aj env ks loc H'->RV S aj q u->Sm (md S) A (Wv (.type ty) [q]) G E ai):
  Sm (md S) A (TN (.Call (.Name x p) [y] [] pos) env) G E s:=by refine Th<|kM (st:=st) hs sx.ok sx.fr cg m1 m2 ?_;have cl:cP tb (k+1) ks [a] [y]=true:=Bool.and_eq_true_iff.mpr ⟨Bool.and_eq_true_iff.mpr ⟨oy,ca⟩,by induction k using SW<;>rfl⟩;refine callArgs (nQ he) oG rm hs sx cl (aq h1<|aq rfl rfl) λus ai aj a1 a2 a3 a4 a5 a6=>⟨trivial,?_⟩;exact a6.aU λq us rq b=>b.bN<|g q ai aj a1 a2 a3 a4 a5 rq
end
theorem mY{s:Src}(c:ir tb k ks s e=R8):du e=true:=by
 induction k using SW with
 |zero=>exact bc c
 |succ k=>
  revert c
  induction s using Src.casesOn
  ·exact ae λa O=>a
  all_goals exact jQ λu0 u1 u2 u3 u4=>rfl
section
theorem Jw{v:AV}{f:R5 AV->Sh β}{y:β}{Q:Prop}(k:∀l,aw l.length=R8->f l=KX y->RV S W q (.tup l)\/RV S W q (.lst l)->Q)(h:Kh v f=KX y)(rq:RV S W q v):Q:=
 AV.dG (λl h rq=>aR (λz h=>k l z h<|.inl rq) h) h (λh=>AV.dH (λl h rq=>aR (λz h=>k l z h<|.inr rq) h) h λh O=>au h) rq
@[elab_as_elim] theorem rG {v:AV} {o:Sh β} {y:β} {P:AV->Prop} (k:o=KX y->P (.tup [])) (h:yE v o=KX y):P v:=
 AV.dG (λl h=>by
  induction l using Sp
  ·exact k h
  ·exact au h) h λh=>au h
def rh(S:bf)(T:cU):Prop:=∀{A:Vj} {s:Sn} {W:Wd} {env:Xz} {ks:R5 (SS×VK)} {loc:Loc} {H':Hp} {E:Se->Sn->Prop} {p q:Se} {tg:SE} {G:Se->Sn->Prop},A.handled=Sd->s.heap=W.h->St S T W env ks loc H'->RV S W p (.tup [])->RV S W q (.tup [])->
 sC S T env ks loc H' tg [] s W G->Sm (md S) A (Wv (.type "zip") [p,q]) (λx ai=>Sm (md S) A (WJ x) G E ai) E s
def wQ(S:bf)(T:cU)(env:Xz)(ks:R5 (SS×VK))(loc:Loc)(tg:SE)(s:Sn)(W:Wd)(G:Se->Sn->Prop)(xs:R5 AV)(H':Hp):Prop:=
 ∀ai aj,ai.heap=aj.h->ai.gens=s.gens->ai.os=s.os->W.Fk aj->St S T aj env ks loc H'->sC S T env ks loc H' tg xs ai aj G
theorem wQ.of{ys:R5 AV}(g:wQ S T env ks loc tg s W G ys H')(h:KX (xs,H)=KX (ys,H')):wQ S T env ks loc tg s W G xs H:=
 (R6 (λp:R5 AV×Hp=>wQ S T env ks loc tg s W G p.1 p.2)<|R9 h).mpr g
theorem ro(st:bU S T P tb)(hz:rh S T)(he:bH S T tb r n)(rm:aN A n)(hs:s.heap=W.h)(sx:St S T W env ks loc H)(c:ir tb k ks src e=R8)(ht:iJ src tg=R8)(hc:oP src=R8)(h:abw P r src loc H=KX (xs,H'))
  (g:wQ S T env ks loc tg s W G xs H'):
  Sm (md S) A (TN e env) (λx ai=>Sm (md S) A (WJ x) G E ai) E s:=by
 revert c
 induction k using SW with
 |zero=>exact bc
 |succ k=>
 induction src using Src.casesOn with
 |e a=>exact ae λu0 ca=>aC (λv H1 h1 h=>he ca rm hs sx h1 λq ai aj a1 a2 a3 a4 a5=>Jw (λl z h rq=>Kz a1 a5.1 z rq<|g.of h ai aj a1 a2 a3 a4 a5.1) h a5.2) h
 |rng a=>
  refine jQ λx p es pos=>xT λy=>ae λc c4=>ae (λc c3=>ae (λc1 c2=>aC (λv H1 h1 h=> ?_) h) c) c;have b:=st.bx "range" (.inl rfl);have c1:=Sa c1;refine Hy st he rm hs sx c2 (c1▸b.1) (c1▸b.2) c3 c4 h1 λq ai aj a1 a2 a3 a4 a5 a6=>AV.dw (λi h rq=>aR (λz h=>rq.eS λt=>FK a1 a5 z.1 (Wr (pC z.2).1)<|g.of h ai aj a1 a2 a3 a4 a5) h) h (λh O=>au h) a6
 |enum a=>
  refine jQ λx p es pos=>xT λy=>ae λc c4=>ae (λc c3=>ae (λc1 c2=>aC (λv H1 h1 h=> ?_) h) c) c;have b:=st.bx "enumerate" (.inr<|.inl rfl);have c1:=Sa c1;refine Hy (ty:="enumerate") st he rm hs sx c2 (c1▸b.1) (c1▸b.2) c3 c4 h1 λq ai aj a1 a2 a3 a4 a5 a6=>AV.dH (λl h rq=>aR (λz h=> ?_) h) h (λh O=>au h) a6
  induction tg using SH<;>first|exact bc ht|exact II a1 a5 z rq<|g.of h ai aj a1 a2 a3 a4 a5
 |zip0 a b=>
  refine jQ λx p es pos=>Kr λy y'=>ae λc cl=>ae (λc1 c2=> ?_) c;refine aC (λv H1 h1 h=> ?_) h;refine rG (λh h1=> ?_) h h1;refine aC (λw H2 h2 h=> ?_) h;refine rG (λh h2=> ?_) h h2;have bb:=st.bx "zip" (.inr<|.inr<|.inl rfl);have c1:=Sa c1;refine Th<|kM (v:=.type "zip") (st:=st) hs sx.ok sx.fr c2 (c1▸bb.1) (c1▸bb.2) ?_;refine callArgs (nQ he) oG rm hs sx cl (aq h1<|aq (aq h2<|aq rfl rfl) rfl) λus ai aj a1 a2 a3 a4 a5 a6=>⟨trivial,?_⟩;exact a6.aU λq1 us r1 b=>b.aU λq2 us r2 b=>b.bN<|hz rm.hd a1 a5 r1 r2<|(g.of h) ai aj a1 a2 a3 a4 a5
 |cb g' l=>exact bc hc
end
section
variable{Q:WX->Sn->Prop}
abbrev SG(S:bf)(T:cU)(env:Xz)(ks:R5 (SS×VK))(loc':Loc)(H':Hp)(fl:Fl)(s:Sn)(W:Wd)(Q:WX->Sn->Prop):Prop:=∀f,Ends s W (λW'=>St S T W' env ks loc' H'/\rU S W' f fl) (Q f)
theorem SG.after(g:SG S T env ks loc' H' fl s W Q)(a:ai.gens=s.gens)(b:ai.os=s.os)(go:W.Go aj):SG S T env ks loc' H' fl ai aj Q:=λf=>(g f).after a b go
theorem SG.of{fl1:Fl}{l1:Loc}(g:SG S T env ks loc' H' fl s W Q)(e:KX (fl1,l1,H1)=KX (fl,loc',H')):SG S T env ks l1 H1 fl1 s W Q:=
 (R6 (λp:Fl×Loc×Hp=>SG S T env ks p.2.1 p.2.2 p.1 s W Q)<|R9 e).mpr g
theorem SG.fin{f:WX}(g:SG S T env ks loc' H' fl s W Q)(a:eU s W ai aj)(x:St S T aj env ks loc' H')(y:rU S aj f fl):Q f ai:=g f ai aj a.heap a.gens a.os a.go ⟨x,y⟩
theorem M7(st:bU S T P tb)(hz:rh S T)(he:bH S T tb r n)(hSs:jv S T tb r n)(rm:aN A n)(hs:s.heap=W.h)(sx:St S T W env ks loc H){t:Tg}{b:R5 MS}{it:SE}
  (ct:dX ks t tg=R8) (cs:ir tb k ks src it=R8) (c1:iJ src tg=R8) (c2:oP src=R8) (cb:cI tb k ks b bb=R8) (h1:abw P r src loc H=KX (xs,H1)) (h2:forL r t b xs loc H1=KX (fl,loc',H')) (g:SG S T env ks loc' H' fl s W Q):
  Sm (md S) A (Ve (.For tg it bb [] p) env) Q E s:=
 wpAny_For (ro st hz he rm hs sx cs c1 c2 h1 λai aj a1 a2 a3 a4 a5 itv as J Jm aX aT b1 b2 b3 b4 b5 b6 b7 b8 O b9=>FY hSs rm b6 b8 ct cb b1 b2 b3 b4.toGo b5 b7 h2<|g.after a2 a3 a4.toGo) (lS env · (mY cs))
theorem zO(hSs:jv S T tb r n)(rm:aN A n){x:SE}{test:Loc->Hp->Sh (Sq×Hp)}(hT:∀{s':Sn} {W':Wd} {loc1:Loc} {H1 H2:Hp} {t:Sq} {Q:Sq->Sn->Prop} {E:Se->Sn->Prop},s'.heap=W'.h->St S T W' env ks loc1 H1->test loc1 H1=KX (t,H2)->(∀s2 W2,eU s' W' s2 W2->St S T W2 env ks loc1 H2->Q t s2)->Sm (md S) A (Wi x env<|TN x env) Q E s')
  (hs:s.heap=W.h) (sx:St S T W env ks loc H) {b:R5 MS} {m:Sf} (cb:cI tb k ks b bb=R8) (h:m7 r test b m loc H=KX (fl,loc',H')) (g:SG S T env ks loc' H' fl s W Q):Sm (md S) A (Ve (.While x bb [] p) env) Q E s:=by
 refine wpAny_While<|codeAny_whileLoop (λm s'=>∃W' loc1 H1,eU s W s' W'/\St S T W' env ks loc1 H1/\m7 r test b m loc1 H1=KX (fl,loc',H')) ?_ m ⟨W,loc,H,⟨hs,rfl,rfl,.refl W⟩,sx,h⟩;refine λm s' j=>j.elim λW' j=>j.elim λloc1 j=>j.elim λH1 j=> ?_
 induction m using SW with
 |zero=>exact au j.2.2
 |succ m=>
 refine aC (λt H2 h2 a6=>hT j.1.heap j.2.1 h2 λs2 W2 b0 b5=> ?_) j.2.2;have a:=j.1.trans b0
 induction t using Tb with
 |false=>exact Wt<|(g.of a6).fin a b5 rfl
 |true=>
  refine lU (λfl2 loc3 H3 h3 a6=>hSs cb rm b0.heap b5 h3 λf s3 W3 c1 c2 c3 c4 c5=> ?_) a6;have a:=a.trans ⟨c1,c2,c3,c4⟩;have c6:=c5.2
  induction fl2 using Fl.casesOn with
  |nx=>have e:=c6;subst e;exact ⟨m,T5 m,W3,loc3,H3,a,c5.1,a6⟩
  |ct=>have e:=c6;subst e;exact ⟨m,T5 m,W3,loc3,H3,a,c5.1,a6⟩
  |rt v=>
   have sx:=c5.1;have rr:=c6
   induction rr with
   | @mk q rq=>exact(g.of a6).fin a sx<|r9.mk rq
theorem Qe(hT:iG S T tb r n)(hSs:jv S T tb r n)(rm:aN A n)(hs:s.heap=W.h)(sx:St S T W env ks loc H){c:ME}{x:SE}{b:R5 MS}{m:Sf}(cc:aK tb k ks c x=R8)(cb:cI tb k ks b bb=R8)
  (h:m7 r (r.t c) b m loc H=KX (fl,loc',H')) (g:SG S T env ks loc' H' fl s W Q):Sm (md S) A (Ve (.While x bb [] p) env) Q E s:=
 zO hSs rm (λhs sx h2 k=>hT cc rm hs sx h2 λs2 W2 b1 b2 b3 b4 b5=>k s2 W2 ⟨b1,b2,b3,b4.toGo⟩ b5) hs sx cb h g
theorem MU(hT:iG S T tb r n)(hSs:jv S T tb r n)(rm:aN A n)(hs:s.heap=W.h)(sx:St S T W env ks loc H){c:ME}{x:SE}{t e:R5 MS}{b o:R5 T1}{v:Sq}(cc:aK tb k ks c x=R8)(ct:cI tb k ks t b=R8)(co:cI tb k ks e o=R8)
  (h1:r.t c loc H=KX (v,H1)) (h2:bO r (UI v t e) loc H1=KX (fl,loc',H')) (g:SG S T env ks loc' H' fl s W Q):Sm (md S) A (Ve (.If x b o p) env) Q E s:=
 wpAny_If (hT cc rm hs sx h1 λs2 W2 b1 b2 b3 b4 b5=>by
  induction v using Tb
  ·exact hSs co rm b1 b5 h2<|g.after b2 b3 b4.toGo
  ·exact hSs ct rm b1 b5 h2<|g.after b2 b3 b4.toGo)
theorem Oe(he:bH S T tb r n)(rm:aN A n)(hs:s.heap=W.h)(sx:St S T W env ks loc H){a:ME}{x:SE}{v:AV}(ca:aK tb k ks a x=R8)(h:r.e a loc H=KX (v,H'))(g:SG S T env ks loc H' (.rt v) s W Q):
  Sm (md S) A (Ve (.Return (KX x) p) env) Q E s:=
 wpAny_Return_some (he ca rm hs sx h λq s2 W2 b1 b2 b3 b4 b5=>g.fin ⟨b1,b2,b3,b4.toGo⟩ b5.1<|r9.mk b5.2)
theorem Mk(hs:s.heap=W.h)(sx:St S T W env ks loc H)(g:SG S T env ks loc H (.rt .none) s W Q):Sm (md S) A (Ve (.Return Sd p) env) Q E s:=
 wpAny_Return_none ((g<|.ret .none).here hs rfl rfl rfl ⟨sx,(r9.mk .none)⟩)
theorem Kb(hs:s.heap=W.h)(sx:St S T W env ks loc H)(g:SG S T env ks loc H .ct s W Q):Sm (md S) A (Ve (.Continue p) env) Q E s:=
 wpAny_Continue ((g .cont).here hs rfl rfl rfl ⟨sx,rfl⟩)
theorem dD{x:SE}(h:dP x=Sj)(t:Sh SE)(l:Sf)(env:Xz):swapsWith x t l env=pure false:=by
 induction x using SH<;>first|rfl|exact V6 h
theorem FR.inter(F:FR S W env ks loc):interactive env=false:=by
 unfold interactive;rw[F.kind]
 rfl
theorem Qp(he:bH S T tb r n)(rm:aN A n)(hs:s.heap=W.h)(sx:St S T W env ks loc H){a:ME}{x:SE}{v:AV}(nc:dP x=Sj)(ca:aK tb k ks a x=R8)(h:r.e a loc H=KX (v,H'))(g:SG S T env ks loc H' .nx s W Q):
  Sm (md S) A (Ve (.Expr x p) env) Q E s:=
 UX (he ca rm hs sx h λq s2 W2 b1 b2 b3 b4 b5=>g.fin ⟨b1,b2,b3,b4.toGo⟩ b5.1 rfl) sx.fr.inter (dD nc _ _ _)
theorem kT{i:Sf}{x:SS}(c:kG ks i x=R8):∃vk,ks[i]? =KX (x,vk)/\(vk=.l\/vk=.c):=
 da (P:=λo=>o=ks[i]? ->_) (λp h e=>ae (λa b=>⟨p.2,e.symm.trans (R6 (λy=>KX (y,p.2))<|Sa a),(Bool.or_eq_true_iff.mp b).imp Sa Sa⟩) h) c rfl
theorem dm{i:Sf}{x:SS}(c:cG ks i x=R8):ks[i]? =KX (x,.l):=
 da (P:=λo=>o=ks[i]? ->ks[i]? =KX (x,.l)) (λp h e=>ae (λa b=>e.symm.trans (R6 KX<|congr (R6 Prod.mk<|Sa a) (Sa b))) h) c rfl
theorem Qs(he:bH S T tb r n)(rm:aN A n)(hs:s.heap=W.h)(sx:St S T W env ks loc H){i:Sf}{a:ME}{x:SS}{v:AV}(nc:dP y=Sj)(cs:kG ks i x=R8)(ca:aK tb k ks a y=R8)(h:r.e a loc H=KX (v,H1))
  (g:SG S T env ks (loc.set i<|.fr v) H1 .nx s W Q):Sm (md S) A (Ve (.Assign [.Name x p'] y p) env) Q E s:=
 (kT cs).elim λvk hk=>Vk (he ca rm hs sx h λq s2 W2 b1 b2 b3 b4 b5=>fO b1 b5.1 hk.1 (hk.2.imp id λe=>⟨e,v,rfl⟩) (.fr b5.2) λs3 W3 c1 c2 c3 c4 c5=>(g.after b2 b3 b4.toGo).fin ⟨c1,c2,c3,c4⟩ c5 rfl)<|dD nc _ _ _
theorem CY(hs:s.heap=W.h)(sx:St S T W env ks loc H){i:Sf}(ru:aA S W us vs)(h1:s'.heap=s.heap.push (aE us j)):
  ∃W',s'.heap=W'.h/\W.Go W'/\St S T W' env ks loc H/\bV S W' (.fs i) (λu0=> .fs i) (.ref s.heap.objs.size) (.ml vs)/\W.Mv iz W':=
 have k:=λa o e=>h1▸bZ a o (hs▸e);have mv:=Wd.p8 k (hs▸bz (SN s.heap.objs.size))
 ⟨W.gI s'.heap s.heap.objs.size<|.fs i,rfl,mv.go id λu0=>id,sx.mv mv λu0=>id,.ml Wd.mJ (h1▸SD _ rfl)<|ru.mono<|mv.le id,mv⟩
theorem NA(hl:iv S T tb r n)(rm:aN A n)(hs:s.heap=W.h)(sx:St S T W env ks loc H){i:Sf}{l:R5 ME}{x:SS}{es:R5 SE}(cs:cG ks i x=R8)(ca:cP tb k ks l es=R8)(z:l.length<1000)(h:cq r l loc H=KX (vs,H1))
  (g:SG S T env ks (loc.set i<|.ml vs) H1 .nx s W Q):Sm (md S) A (Ve (.Assign [.Name x p'] (.List es p2) p) env) Q E s:=
 Vk (VO<|hl ca rm hs sx h λus s2 W2 b1 b2 b3 b4 b5=>⟨(T6▸qU b5.2 (gY h) z),(CY b1 b5.1 b5.2 rfl).elim λW3 c=>
  fO c.1 c.2.2.1 (dm cs) (.inl rfl) c.2.2.2.1 λs3 W4 d1 d2 d3 d4 d5=>(g.after b2 b3<|b4.toGo.trans c.2.1).fin ⟨d1,d2,d3,d4⟩ d5 rfl⟩) (dD rfl _ _ _)
theorem Oi(st:bU S T P tb)(hs:s.heap=W.h)(sx:St S T W env ks loc H){i:Sf}{x:SS}(cs:cG ks i x=R8)
  (g:SG S T env ks (loc.set i<|.mT []) H .nx s W Q):Sm (md S) A (Ve (.Assign [.Name x p'] (.Dict [] [] p2) p) env) Q E s:=
 have k:=λa o e=>bZ a o<|hs▸e;have mv:=Wd.p8 k (hs▸bz (SN s.heap.objs.size))
 Vk (YY (fO (W:=W.gI (s.heap.push<|aI [] 0) s.heap.objs.size<|.fs i) rfl (sx.mv mv λu0=>id) (dm cs) (.inl rfl) (.mT Wd.mJ (SD s.heap rfl) .nil Vg<|hs▸sx.ok.qh st)
  λs3 W4 d1 d2 d3 d4 d5=>(g.after rfl rfl (mv.go id λu0=>id)).fin ⟨d1,d2,d3,d4⟩ d5 rfl)) (dD rfl _ _ _)
end
section
variable{Q:WX->Sn->Prop}
theorem Ns.inj{h:Tu}{m m':SS->Sh Se}(x:h.Ns a m)(y:h.Ns a m'):m=m':=
 x.elim λo x=>x.elim λes x=>x.elim λep x=>y.elim λo' y=>y.elim λes' y=>y.elim λep' y=>
  have e:=R9<|x.1.symm.trans y.1;have e:=(Xh<|(x.2.1.symm.trans (R6 X9 e)).trans y.2.1).1
  funext λn=>(x.2.2.2 n).symm.trans ((R6 (λes=>nsFind es n) e).trans<|y.2.2.2 n)
noncomputable def lY(W:Wd)(env:Xz)(x:SS)(q:Se):Prop:=∃m,W.h.Ns env.locals m/\m x=KX q
theorem lY.inj{x:SS}{p:Se}(a:lY W env x p)(b:lY W env x q):p=q:=
 a.elim λm a=>b.elim λm' b=>R9<|a.2.symm.trans ((U0 (Ns.inj a.1 b.1) x).trans b.2)
theorem lY.fk{x:SS}(a:lY W env x q)(k:W.Fk W')(l:W.ah env.locals=KX .fl):lY W' env x q:=
 a.elim λm a=>a.1.elim λo h=>h.elim λes h=>h.elim λep h=>⟨m,⟨o,es,ep,(k.seen _ _ _ rfl h.1 l).1,h.2⟩,a.2⟩
theorem nY{i:Sf}{x:SS}{Q:Se->Sn->Prop}(hs:s.heap=W.h)(F:FR S W env ks loc)(hk:ks[i]? =KX (x,.l))(hl:loc[i]? =KX sv)(hu:sv≠ .un)(g:∀q,lY W env x q->bV S W (.fs i) (λu0=> .fs i) q sv->Q q s):
  Sm (md S) A (aaM env x) Q E s:=
 have z:=F.lookup hk hl
 z.2.elim λm q=>n7.casesOn q.2 (λe=>(hu e).elim) λv a b=>aaG F.kind z.1 (hs▸q.1) a<|g v ⟨m,q.1,a⟩ b
theorem St.slot{i:Sf}(sx:St S T W env ks loc H)(mv:W.Mv (·=.fs i) W'){x:SS}(hk:ks[i]? =KX (x,.l))(hl:∃sv0,loc[i]? =KX sv0/\sv0≠ .un)
  (hn:∀q,lY W env x q->bV S W' (.fs i) (λu0=> .fs i) q sv):St S T W' env ks (loc.set i sv) H:=
 have n1:=λe=>nomatch e;have F:=sx.fr
 ⟨sx.ok.mv mv n1 (λe=>nomatch e),sx.hr.mv mv n1 λn ℓ h q=>(q▸h:aF.ofEntry n (.fs i)),rK.casesOn F.sl λm hm sl=>
  have z:=Ns.kp (mv.lA n1) hm F.ah λe=>nomatch e
  F.upd hk z.2 z.1 (hl.elim λsv0 h=>n7.casesOn (sl i x .l sv0 hk h.1) (λe=>(h.2 e).elim) λv a O=>(.at v a (hn v ⟨m,hm,a⟩)))
   λj y k' sv' ne O hj hl=>(sl j y k' sv' hj hl).rJ (mv.lA n1) n1 (λe=>ne<|R6 (λl:aF=>aF.casesOn (motive:=λu0=>Sf) l 0 0 (λu0=>0) id (λu0=>0) (λu0 u1=>0) (λu0 u1 u2=>0) (λu0=>0) 0) e) λe=>nomatch e⟩
theorem pU(hs:s.heap=W.h)(sx:St S T W env ks loc H){i:Sf}{x f:SS}{id:WO}{es:R5 SE}{Q:Se->Sn->Prop}(hk:ks[i]? =KX (x,.l))(hd:(x==("__debug__":SS))=Sj)(hline:(ap.endLine==pos.line)=R8)(hp:(Ww pos<|UY es env).any (·.1)=Sj)(hn:es.length<29)
  (hl:loc[i]? =KX (.ml l)) (slot:Slot "list" f id) (hty:typeOf (.builtin id)=pure (.type "method_descriptor"))
  (g:∀a us j,lY W env x (.ref a)->W.ah a=KX (.fs i)->W.h.get? a=KX (aE us j)->aA S W us l->Sm (md S) A (ZE pos (.builtin id) [.ref a] (Ww pos<|UY es env) []) Q E s):
  Sm (md S) A (TN (.Call (.Attribute (.Name x p) f ap) es [] pos) env) Q E s:=
 gK rfl hline hp hn (TK (nY hs sx.fr hk hl (λe=>nomatch e) λq nq rq pl=>rq.wO (λa us j r1 r2 r3 nq=>
  have r2':=hs▸r2
  V8 ⟨_,r2',rfl⟩ Vw slot hty (λb e=>Vh e▸⟨_,r2',rfl⟩) (g a us j nq r1 r2 r3)) nq) hd)
theorem C5{i:Sf}(sx:St S T W env ks loc H){x:SS}(hk:ks[i]? =KX (x,.l))(hl:loc[i]? =KX sv0)(hu:sv0≠ .un)(na:lY W env x (.ref a))(la:W.ah a=KX (.fs i))(sb:SO a W.h h')(hW:W'=W.grow h')
  (hn:bV S W' (.fs i) (λu0=> .fs i) (.ref a) sv):W.Go W'/\St S T W' env ks (loc.set i sv) H:=by subst hW;have mv:=Wd.fG la sb;exact ⟨mv.go (λe=>nomatch e) (λu0 e=>nomatch e),sx.slot mv hk ⟨sv0,hl,hu⟩ λq nq=>nq.inj na▸hn⟩
theorem m8{i:Sf}:¬(aF.out=.fs i):=λe=>nomatch e
theorem tM{i:Sf}(hs:s.heap=W.h)(sx:St S T W env ks loc H){x:SS}(hk:ks[i]? =KX (x,.l))(hl:loc[i]? =KX sv0)(hu:sv0≠ .un)(na:lY W env x (.ref a))(la:W.ah a=KX (.fs i))(e:W.h.get? a=KX o)
  (g1:h'.get? a=KX (aE us j)) (sb:SO a s.heap h') (rv:aA S W us l):eU s W {s with heap:=h'} (W.grow h')/\St S T (W.grow h') env ks (loc.set i<|.ml l) H:=
 have sb:=(R6 (λq=>SO a q h') hs).mp sb;have mv:=Wd.fG la sb;have m:=C5 sx hk hl hu na la sb rfl (.ml ((mv.ah _ _ e).trans la) g1<|rv.mono<|mv.le m8)
 ⟨⟨rfl,rfl,rfl,m.1⟩,m.2⟩
theorem pq{m:ME}(oy:du y=R8)(ca:aK tb k ks m y=R8):cP tb (k+1) ks [m] [y]=true:=
 Bool.and_eq_true_iff.mpr ⟨Bool.and_eq_true_iff.mpr ⟨oy,ca⟩,by induction k using SW<;>rfl⟩
theorem MM(he:bH S T tb r n)(rm:aN A n)(hs:s.heap=W.h)(sx:St S T W env ks loc H){i:Sf}{a:ME}{x:SS}{v:AV}(cs:cG ks i x=R8)(hd:(x==("__debug__":SS))=Sj)(hline:(ap.endLine==pos.line)=R8)(oy:du y=R8)(ca:aK tb k ks a y=R8)
  (h:r.e a loc H=KX (v,H1)) (hl:loc[i]? =KX (.ml l)) (z:aw l.length=R8) (g:SG S T env ks (loc.set i<|.ml<|l++[v]) H1 .nx s W Q):
  Sm (md S) A (Ve (.Expr (.Call (.Attribute (.Name x p) ("append":SS) ap) [y] [] pos) p') env) Q E s:=by have hk:=dm cs;have cl:=pq oy ca;refine UX (pU hs sx hk hd hline (gP cl) (by decide:1<29) hl Vo Vn λad us j n1 n2 n3 n4=> ?_) sx.fr.inter<|dD rfl _ _ _;refine callArgs (nQ he) ft rm hs sx cl (aq h<|aq rfl rfl) λws ai aj a1 a2 a3 a4 a5 a6=>⟨trivial,?_⟩;refine a6.aU λq us' rq b=>b.bN ?_;have k:=a4.seen _ _ _ rfl n3 n2;refine kU (a1▸k.1) (n4.length▸Sw (cJ z) (by decide)) λh' j' g1 sb=> ?_;have m:=tM a1 a5 hk hl (λe=>nomatch e) (n1.fk a4 sx.fr.ah) k.2 k.1 g1 sb<|(aA.cons rq aA.nil).append<|n4.mono a4.toLe;exact(g.after a2 a3 a4.toGo).fin m.1 m.2 rfl
end
section
variable{Q:WX->Sn->Prop}
theorem Oc(he:bH S T tb r n)(rm:aN A n)(hs:s.heap=W.h)(sx:St S T W env ks loc H){i:Sf}{a:ME}{x:SS}(cs:cG ks i x=R8)(hd:(x==("__debug__":SS))=Sj)(hline:(ap.endLine==pos.line)=R8)(oy:du y=R8)(ca:aK tb k ks a y=R8)
  (h:r.e a loc H=KX (.lst vs,H1)) (hl:loc[i]? =KX (.ml l)) (z:aw l.length=R8) (z2:aw vs.length=R8) (g:SG S T env ks (loc.set i<|.ml<|l++vs) H1 .nx s W Q):
  Sm (md S) A (Ve (.Expr (.Call (.Attribute (.Name x p) ("extend":SS) ap) [y] [] pos) p') env) Q E s:=by have hk:=dm cs;have cl:=pq oy ca;refine UX (pU hs sx hk hd hline (gP cl) (by decide:1<29) hl YI PySem.F.type_list_extend λad us j n1 n2 n3 n4=> ?_) sx.fr.inter<|dD rfl _ _ _;refine callArgs (nQ he) ft rm hs sx cl (aq h<|aq rfl rfl) λws ai aj a1 a2 a3 a4 a5 a6=>⟨trivial,?_⟩;refine a6.aU λq us' rq b=>b.bN ?_;refine rq.kY λb ws jb r1 r2 r3=> ?_;have k:=a4.seen _ _ _ rfl n3 n2;refine DE (a1▸k.1) (a1▸r1) (n4.length▸cJ z) (r3.length▸cJ z2) λh' j' g1 sb=> ?_;have m:=tM a1 a5 hk hl (λe=>nomatch e) (n1.fk a4 sx.fr.ah) k.2 k.1 g1 sb<|r3.append<|n4.mono a4.toLe;exact(g.after a2 a3 a4.toGo).fin m.1 m.2 rfl
@[elab_as_elim] theorem aA.NR {v:AV}:∀{P:R5 Se->Prop} {us:R5 Se},aA S W us (l++[v])->(∀us0 q,aA S W us0 l->RV S W q v->P (us0++[q]))->P us:=by
 induction l with
 |nil=>exact λh k=>h.aU λq us rq b=>b.bN<|k [] q aA.nil rq
 |cons x l ih=>exact fun{P _} h k=>aA.aU h λq us rq b=>ih (P:=λus=>P (q::us)) b λus0 q' a b=>k (q::us0) q' (aA.cons rq a) b
theorem s_pop(rm:aN A n)(hs:s.heap=W.h)(sx:St S T W env ks loc H){i:Sf}{x y:SS}{v:AV}(cs:cG ks i y=R8)(hd:(y==("__debug__":SS))=Sj)(cj:kG ks j x=R8)(hline:(ap.endLine==pos.line)=R8)
  (hl:loc[i]? =KX (.ml l)) (hv:l.getLast?=KX v) (z:aw l.length=R8) (g:SG S T env ks ((loc.set i<|.ml l.dropLast).set j<|.fr v) H .nx s W Q):
  Sm (md S) A (Ve (.Assign [.Name x p1] (.Call (.Attribute (.Name y p) ("pop":SS) ap) [] [] pos) p') env) Q E s:=by have hk:=dm cs;refine Vk (pU hs sx hk hd hline rfl (by decide) hl Zd PySem.F.type_list_pop λad us jj n1 n2 n3 n4=> ?_)<|dD rfl _ _ _;refine(ft).run rfl (ZS ⟨trivial,?_⟩);refine(List.getLast?_eq_some_iff.mp hv).elim λl0 e=> ?_;refine(e▸n4).NR (λus0 q r0 rq n3=> ?_) n3;have z0:=(R6 (λl:R5 AV=>l.length<1000) e).mp<|cJ z;refine KJ (hs▸n3) (r0.length.symm▸abA ((R6 (·<1000)<|Sy).mp z0)) λh' j' g1 sb=> ?_;have m:=tM hs sx hk hl (λe=>nomatch e) n1 n2 n3 g1 sb r0;have g:=(R6 (λl=>SG S T env ks ((loc.set i<|.ml l).set j<|.fr v) H .nx s W Q)<|(R6 abr e).trans ZN).mp g;exact(kT cj).elim λvk c=>fO rfl m.2 c.1 (c.2.imp id λe=>⟨e,v,rfl⟩) (.fr<|rq.mono m.1.go.toLe) λs3 W3 c1 c2 c3 c4 c5=>g.fin (m.1.trans ⟨c1,c2,c3,c4⟩) c5 rfl
theorem M0(he:bH S T tb r n)(rm:aN A n)(hs:s.heap=W.h)(sx:St S T W env ks loc H){i:Sf}{a:ME}{x:SS}{v:AV}{j:SK}(cs:cG ks i x=R8)(hd:(x==("__debug__":SS))=Sj)(nc:dP y=Sj)(ca:aK tb k ks a y=R8)(ck:aK tb k ks kk z=R8)
  (h:r.e a loc H=KX (v,H1)) (h2:r.e kk loc H1=KX (.int j,H2)) (hl:loc[i]? =KX (.ml l)) (h0:0<=j) (hj:j.toNat<l.length) (zl:l.length<2000) (g:SG S T env ks (loc.set i<|.ml<|l.set j.toNat v) H2 .nx s W Q):
  Sm (md S) A (Ve (.Assign [.Subscript (.Name x p) z p1] y p') env) Q E s:=by have hk:=dm cs;refine V7 (eg he rm hs sx ca h λq ai aj a1 a2 a3 a4 a5 a6=> ?_)<|dD nc _ _ _;refine TK (nY a1 a5.fr hk hl (λe=>nomatch e) λqa nq rq=>rq.wO (λad us jj r1 r2 r3 nq=> ?_) nq) hd;refine eg he rm a1 a5 ck h2 λqk aX aT b1 b2 b3 b4 b5 b6=>b6.eS λt=> ?_;have k:=b4.seen _ _ _ rfl r2 r1;refine CH (b1▸k.1) (r3.length▸zl) h0 (r3.length▸hj) λh' j' g1 sb=> ?_;have m:=tM b1 b5 hk hl (λe=>nomatch e) (nq.fk b4 a5.fr.ah) k.2 k.1 g1 sb<|aA.set (a6.mono b4.toLe) _<|r3.mono b4.toLe;exact((g.after a2 a3 a4.toGo).after b2 b3 b4.toGo).fin m.1 m.2 rfl
theorem Nf(he:bH S T tb r n)(rm:aN A n)(hs:s.heap=W.h)(sx:St S T W env ks loc H){i:Sf}{a:ME}{x:SS}{v:AV}{l:R5 (R5 AV×AV)}{key:R5 AV}(cs:cG ks i x=R8)(hd:(x==("__debug__":SS))=Sj)(nc:dP y=Sj)(ca:aK tb k ks a y=R8)(ck:aK tb k ks kk z=R8)
  (h:r.e a loc H=KX (v,H1)) (h2:r.e kk loc H1=KX (.tup key,H2)) (hl:loc[i]? =KX (.mT l)) (hkey:AV.key 4 (.tup key)=R8) (zl:aw l.length=R8) (g:SG S T env ks (loc.set i<|.mT<|hG key v l) H2 .nx s W Q):
  Sm (md S) A (Ve (.Assign [.Subscript (.Name x p) z p1] y p') env) Q E s:=by have hk:=dm cs;refine V7 (eg he rm hs sx ca h λq ai aj a1 a2 a3 a4 a5 a6=> ?_)<|dD nc _ _ _;refine TK (nY a1 a5.fr hk hl (λe=>nomatch e) λqa nq rq=>rq.yC (λad es jj r1 r2 r3 r4 r5 nq=> ?_) nq) hd;refine eg he rm a1 a5 ck h2 λqk aX aT b1 b2 b3 b4 b5 b6=> ?_;have k:=b4.seen _ _ _ rfl r2 r1;refine zT b1 rm.nH b6 hkey (a6.mono b4.toLe) k.2 (λe=>nomatch e) k.1 (r3.mono b4.toLe) r4 zl λs3 es' n' sb c2 c3 mv c5 c6 c7=> ?_;have m:=C5 b5 hk hl (λe=>nomatch e) (nq.fk b4 a5.fr.ah) k.2 sb rfl (.mT ((mv.ah _ _ k.1).trans k.2) c5 c6 c7 r5);exact((g.after a2 a3 a4.toGo).after b2 b3 b4.toGo).fin ⟨rfl,c2,c3,m.1⟩ m.2 rfl
theorem Of(he:bH S T tb r n)(rm:aN A n)(hs:s.heap=W.h)(sx:St S T W env ks loc H){i:Sf}{a:ME}{x:SS}{u w:SK}(cs:kG ks i x=R8)(cv:cA ks i x=R8)(ca:aK tb k ks a y=R8)
  (hl:loc[i]? =KX (.fr<|.int u)) (h:r.e a loc H=KX (.int w,H1)) (g:SG S T env ks (loc.set i<|.fr<|.int<|u-w) H1 .nx s W Q):Sm (md S) A (Ve (.AugAssign (.Name x p) .Sub y p') env) Q E s:=
 (kT cs).elim λvk hk=>wpAny_AugAssign_Name (eR hs sx.fr cv hl λq rq=>eg he rm hs sx ca h λq2 ai aj a1 a2 a3 a4 a5 a6=>
  rq.eS λt=>a6.eS λt2=>
   PyProof.Rows.isub_int (fO a1 a5 hk.1 (hk.2.imp id λe=>⟨e,_,rfl⟩) (.fr .int) λs3 W3 c1 c2 c3 c4 c5=>(g.after a2 a3 a4.toGo).fin ⟨c1,c2,c3,c4⟩ c5 rfl))
end
noncomputable abbrev NV:=R5<|SS×Se
theorem As{l m:NV}{x:SS}{o:Sh Se}(h:∀v,l.lookup x=KX v->o=KX v)(h':l.lookup x=Sd->m.lookup x=o):(l++m).lookup x=o:=
 List.lookup_append.trans (by
  generalize e:l.lookup x=q at h h'
  induction q using Sl
  ·exact(Option.none_or).trans<|h' rfl
  ·exact(h _ rfl).symm)
theorem lookup_append_none{l l':NV}{x:SS}(h:l.lookup x=Sd):(l++l').lookup x=l'.lookup x:=As (λu0 e=>oA<|e.symm.trans h) λu0=>rfl
theorem gq{x:SS}{v:α}{l:R5 (SS×α)}:((x,v)::l).lookup x=KX v:=List.lookup_cons_self
theorem gL{x y:SS}{v:α}{l:R5 (SS×α)}(h:y≠x):((x,v)::l).lookup y=l.lookup y:=List.lookup_cons.trans (by rw[beq_eq_false_iff_ne.mpr h])
def qx(ns:R5 SS)(l:NV):Prop:=∀x∈ns,l.lookup x=Sd
theorem qx.snoc{x:SS}{ns:R5 SS}{l:NV}(h:qx (x::ns) l)(nd:(x::ns).Nodup):qx ns (l++[(x,v)]):=λy hy=>
 (lookup_append_none<|h y<|.tail _ hy).trans (gL λe=>(List.nodup_cons.mp nd).1<|e▸hy)
def o5(l sl:NV):NV:=S8 (motive:=λu0=>NV->NV) id (λp O ih sl=>ih (if(sl.lookup p.1).isNone then sl++[p] else sl)) l sl
theorem BO{a:α}{l m:R5 α}:l++[a]++m=l++a::m:=Tf l [a] m
theorem Ds{ns:R5 SS}:∀{us ds:R5 Se} {pre:NV},ns.length=ds.length->us.length<=ns.length->ns.Nodup->qx ns pre->o5 (ns.zip ds) (pre++ns.zip us)=pre++ns.zip (us++ds.drop us.length):=by
 induction ns with
 |nil=>exact λu0 u1 u2 u3=>rfl
 |cons y ns ih=>
  intro us ds pre l1 l2 nd no
  induction ds using Sp with
  |nil=>exact YL l1
  |cons d ds=>
  have nd':=(List.nodup_cons.mp nd).2;have l1:=XD l1
  induction us using Sp with
  |nil=>
   have e:(if((pre++[]).lookup y).isNone then pre++[]++[(y,d)] else pre++[])=pre++[(y,d)]++ns.zip []:=by rw[SP,no y<|.head _,List.zip_nil_right,SP];rfl
   exact(R6 (o5<|ns.zip ds) e).trans<|(ih l1 (Ui _) nd'<|no.snoc nd).trans BO
  |cons u us=>
   have e:(if((pre++(y,u)::ns.zip us).lookup y).isNone then pre++(y,u)::ns.zip us++[(y,d)] else pre++(y,u)::ns.zip us)=pre++[(y,u)]++ns.zip us:=by rw[lookup_append_none (no y<|.head _),gq,BO];rfl
   exact(R6 (o5<|ns.zip ds) e).trans<|(ih l1 (Xa l2) nd'<|no.snoc nd).trans BO
theorem v5{ns:R5 SS}:∀{vs:R5 Se} {pre:NV},ns.length=vs.length->ns.Nodup->qx ns pre->ns.filterMap (λn=>((pre++ns.zip vs).lookup n).map (n,·))=ns.zip vs:=by
 induction ns with
 |nil=>exact λu0 u1 u2=>rfl
 |cons y ns ih=>
  intro vs pre l1 nd no
  induction vs using Sp with
  |nil=>exact YL l1
  |cons v vs=>
  have e:((pre++(y,v)::ns.zip vs).lookup y).map (y,·)=KX (y,v):=R6 (Uo _)<|(lookup_append_none<|no y<|.head _).trans gq;exact(List.filterMap_cons_some (f:=λn=>((pre++(y,v)::ns.zip vs).lookup n).map (n,·)) e).trans (R6 ((y,v)::·) ((R6 (λl:NV=>ns.filterMap λn=>(l.lookup n).map (n,·)) BO.symm).trans<|ih (XD l1) (List.nodup_cons.mp nd).2<|no.snoc nd))
theorem Ji{ns:R5 SS}:∀{us:R5 Se} {l:NV} {x:SS},us.length=ns.length->x∈ns->((ns.zip us++l).lookup x).isNone=false:=by
 induction ns with
 |nil=>exact λu0 h=>nomatch h
 |cons y ns ih=>
  intro us l x l1 h
  induction us using Sp with
  |nil=>exact YL l1
  |cons u us=>
  by_cases e:x=y
  ·exact e▸R6 YS (gq)
  ·exact(R6 YS<|gL e).trans<|ih (XD l1)<|(List.mem_cons.mp h).elim (λq=>(e q).elim) id
theorem Ex{ns:R5 SS}{x:SS}:∀{us:R5 Se},x∉ns->(ns.zip us).lookup x=none:=by
 induction ns with
 |nil=>exact λu0=>rfl
 |cons y ns ih=>
  intro us h
  induction us using Sp with
  |nil=>rfl
  |cons u us=>exact(gL λe:x=y=>h<|e▸VB).trans<|ih λm=>h<|.tail _ m
theorem zip_get{ns:R5 SS}:∀{us:R5 Se} {i:Sf} {x:SS} {v:Se},ns.Nodup->ns[i]? =KX x->us[i]? =KX v->(ns.zip us).lookup x=KX v:=by
 induction ns with
 |nil=>exact λu0 h=>au h
 |cons y ns ih=>
  intro us i x v nd h1 h2
  induction us using Sp with
  |nil=>exact au h2
  |cons u us=>
  induction i using SW with
  |zero=>exact R9 h1▸R9 h2▸gq
  |succ i=>exact(gL λe:x=y=>(List.nodup_cons.mp nd).1<|e▸SM h1).trans<|ih (List.nodup_cons.mp nd).2 h1 h2
section
theorem Fh{fd:Wa}{fS:R5 Arg}{dd:R5 SE}{ns n1 n2:R5 SS}{u1 u2 ds:R5 Se}{items:Sh (Td Se)}{Q:NV->Sn->Prop}(hp:fd.params=⟨[],fS,Sd,[],[],Sd,dd⟩)(hns:fS.map (·.arg)=ns)(e1:ns=n1++n2)(e2:us=u1++u2)(nd:ns.Nodup)
  (hd:∀{Q:Sh (Td Se)->Sn->Prop},Q items s->Sm M A (seqItems? fd.defaults) Q E s) (hi:(items.getD #[]).toList=ds) (h1:u1.length=n1.length) (h2:n2.length=ds.length) (h3:u2.length<=n2.length)
  (g:Q (ns.zip<|us++ds.drop u2.length) s):Sm M A (bindArgs fd ⟨us,[]⟩) Q E s:=by
 subst hi hns
 induction fd using FuncData.casesOn with|mk a1 a2 pr a3 a4 a5 a6 a7 a8 a9 b1 b2 b3 b4 b5=>
 subst hp;have le:(items.getD #[]).toList.length<=(fS.map U2).length:=e1▸Sy▸h2▸Ub _ _;have d0:=R6 (λk=>(items.getD #[]).toList.drop k)<|Nat.sub_eq_zero_of_le le;have l1:(fS.map U2).length-((items.getD #[]).toList.drop<|(items.getD #[]).toList.length-(fS.map U2).length).length=n1.length:=d0.symm▸e1▸Sy▸h2▸Nat.add_sub_cancel _ _;have nn:=e1▸nd;have nz:=fun{l}=>e1▸e2▸(R6 _<|Tf u1 u2 l).trans (aaS h1.symm);have n0:=e1▸e2▸aaS h1.symm;have lv:(fS.map U2).length=(us++(items.getD #[]).toList.drop u2.length).length:=by rw[e1,e2,Sy,Sy,Sy,WS,h1,Uh,UJ<|h2▸h3,h2]
 refine R7<|Sg<|R7<|hd<|bM (λh=> ?_)<|bM (λh=> ?_)<|R7<|Uu _ (λrest sl s'=>s'=s/\o5 rest sl=(fS.map U2).zip (us++(items.getD #[]).toList.drop u2.length)) _ (λp rest sl s' h=> ?_) (λsl s' h=> ?_) _ _ ⟨rfl,?_⟩
 ·have h:=Sa (Bool.and_eq_true_iff.mp h).1
  exact Nat.not_lt.mpr (lv▸Sy▸S0 _ _) h
 ·have e:((fS.map U2).take<|(fS.map U2).length-((items.getD #[]).toList.drop<|(items.getD #[]).toList.length-(fS.map U2).length).length).filter (λn=>(((fS.map U2).zip us).lookup n).isNone)=[]:=by rw[l1,n0,e1,List.take_left];exact List.filter_eq_nil_iff.mpr λx hx q=>SR<|(Ji h1 hx).symm.trans q
  exact SR<|(R6 (λl:R5 SS=> !l.isEmpty) e).symm.trans h
 ·by_cases c:((sl.lookup p.1).isNone)=R8
  ·exact gc c<|Sg ⟨h.1,(R6 (o5 rest) (Sv c).symm).trans h.2⟩
  ·exact bM c<|Sg ⟨h.1,(R6 (o5 rest) (SI c).symm).trans h.2⟩
 ·refine R7<|Sg<|bM SR<|Sg ?_
  have e:=
   (R6 (List.filterMap _)<|SP<|fS.map U2).trans ((R6 (λl:NV=>(fS.map U2).filterMap λn=>(l.lookup n).map (n,·)) h.2).trans<|v5 (pre:=[]) lv nd λu0 u1=>rfl);exact(congr (R6 Q e) h.1).mpr g
 ·have e:o5 (((fS.map U2).drop<|(fS.map U2).length-((items.getD #[]).toList.drop<|(items.getD #[]).toList.length-(fS.map U2).length).length).zip<|(items.getD #[]).toList.drop<|(items.getD #[]).toList.length-(fS.map U2).length) ((fS.map U2).zip us)=(fS.map U2).zip (us++(items.getD #[]).toList.drop u2.length):=by rw[l1,d0,n0,nz,e1,List.drop_left];exact Ds h2 h3 (List.nodup_append.mp nn).2.1 λx hx=>Ex λq=>(List.nodup_append.mp nn).2.2 x q x hx rfl
  exact e
end
end
noncomputable section
open PySem PySem.W PySem.Spec PySem.Calls PyProof.Rows
set_option genCtorIdx false
variable{W W' aj W₀ aT W'':Wd}{n k j c f ep k1 jn k2 c':Sf}{S:bf}{s ai s':Sn}{A:Vj}{E Q G:Se->Sn->Prop}{tb:gh}{T:cU}{ks:R5 (SS×VK)}{env:Xz}{P:PD}{loc loc':Loc}{r:Rec}{H H' H1 H2:Hp}{a d C D I ax tp l1 TI TO i1 i2:SJ}{p pos p' p1 p2 ap p3 p0 p6:Vu}{v q u it:Se}{l vs xs acc vs':R5 AV}{sv sv0 sv':SV}{ℓ abx:aF}{es:R5 Sk}{y e tg z el ox fE it2 it1:SE}{prog:Wm}{w:Yd}{fl:Fl}{b neg:Sq}{α β:Type}{o:Xl}{t tk:Tok}{K K':SK->Prop}{M:Model}{us ws:R5 Se}{as:R5 SJ}{sc:Xk}{R:ZG->Sn->Prop}{h' B:Tu}{Φ Φ':Wd->Prop}{es':Td (SK×Se)}{cap:R5 (Sh Sf)}{t':Uk}{kk elt:ME}{mA:SS->Sh Se}{name at' nm:SS}{ℓk:Sf->aF}{vk:VK}{J:Sf->Wd->Prop}{Jm:Sf->Se->Wd->Prop}{ts cs:R5 SE}{Z:Prop}{bb sts:R5 T1}{src:Src}{newId:WO}{ifs:R5 ME}
section
def di(o:Sh aF):Sh aF:=Sl o Sd λℓ=>UI ℓ.bC (KX .out)<|KX ℓ
structure Wd.Hid(W W':Wd):Prop where
 keep:∀a o,W.h.get? a=KX o->W'.h.get? a=KX o
 ah:∀a o,W.h.get? a=KX o->W'.ah a=di (W.ah a)
 dq:W'.ρ=W.ρ
 N:W'.N=W.N
theorem o9(h:ℓ.bC=Sj):di (KX ℓ)=KX ℓ:=R6 (λb=>UI b (KX aF.out)<|KX ℓ) h
theorem nN(h:ℓ.bC=R8):di (KX ℓ)=KX .out:=R6 (λb=>UI b (KX aF.out)<|KX ℓ) h
theorem l6{o q:Sh aF}{P:Prop}(h:di o=q)(k0:o=Sd->q=Sd->P)(k1:∀ℓ,o=KX ℓ->ℓ.bC=R8->q=KX .out->P)(k2:∀ℓ,o=KX ℓ->ℓ.bC=Sj->q=KX ℓ->P):P:=by
 induction o using Sl with
 |none=>exact k0 rfl h.symm
 |some ℓ=>exact Tb (motive:=λb=>ℓ.bC=b->P) ℓ.bC (λe=>k2 ℓ rfl e (h.symm.trans (o9 e))) (λe=>k1 ℓ rfl e (h.symm.trans (nN e))) rfl
def aF.own(ℓ:aF):Prop:=ℓ.bC=Sj/\ℓ≠ .out
section
theorem Wd.Hid.none(x:W.Hid W')(e:W.h.get? a=KX o)(l:W.ah a=.none):W'.ah a=.none:=(x.ah a o e).trans<|R6 di l
theorem Wd.Hid.own(x:W.Hid W')(e:W.h.get? a=KX o)(l:W.ah a=KX ℓ)(h:ℓ.bC=Sj):W'.ah a=KX ℓ:=(x.ah a o e).trans<|(R6 di l).trans<|o9 h
theorem Wd.Hid.frame(x:W.Hid W')(e:W.h.get? a=KX o)(l:W.ah a=KX ℓ)(h:ℓ.bC=R8):W'.ah a=KX .out:=(x.ah a o e).trans<|(R6 di l).trans<|nN h
theorem Wd.Hid.go(x:W.Hid W'):W.Go W' where
 keep:=λa o e O=>x.keep a o e
 free:=λu0 u1 e l=>x.none e l
 out:=λu0 u1 e l=>x.own e l rfl
 outk:=λa o e O=>x.keep a o e
 dq:=λn O=>U0 x.dq n
 N:=SA x.N.symm
 aL:=λu0 u1 u2 u3 e l=> .same (x.keep _ _ e)<|x.own e l rfl
theorem Wd.Hid.kp(x:W.Hid W'):W.Kp aF.own W' where
 toFe:=x.go.toFe
 lk:=λa o O p e l=>⟨x.keep a o e,x.own e l p.1⟩
def Wd.back(W W':Wd):Wd:={W' with ah:=λb=>Sl (W.h.get? b) (di<|W'.ah b) λu0=>Sl (W.ah b) (W'.ah b) λℓ=>UI ℓ.bC (KX ℓ) (W'.ah b)}
theorem Wd.back_eq{p:Sh Xl}{l:Sh aF}(e:W.h.get? a=p)(h:W.ah a=l):(W.back W').ah a=Sl p (di<|W'.ah a) λu0=>Sl l (W'.ah a) λℓ=>UI ℓ.bC (KX ℓ) (W'.ah a):=e▸h▸rfl
theorem Wd.vJ(e:W.h.get? a=KX o)(l:W.ah a=.none):(W.back W').ah a=W'.ah a:=Wd.back_eq e l
theorem Wd.sh(e:W.h.get? a=KX o)(l:W.ah a=KX ℓ)(h:ℓ.bC=Sj):(W.back W').ah a=W'.ah a:=(Wd.back_eq e l).trans<|R6 (λb=>UI b (KX ℓ)<|W'.ah a) h
theorem Wd.EH(e:W.h.get? a=KX o)(h:∀ℓ,W.ah a=KX ℓ->ℓ.bC=Sj):(W.back W').ah a=W'.ah a:=
 Sl (motive:=λq=>W.ah a=q->(W.back W').ah a=W'.ah a) (W.ah a) (λl=>Wd.vJ e l) (λℓ l=>Wd.sh e l<|h ℓ l) rfl
theorem Wd.BA(e:W.h.get? a=KX o)(l:W.ah a=KX ℓ)(h:ℓ.bC=R8):(W.back W').ah a=KX ℓ:=(Wd.back_eq e l).trans<|R6 (λb=>UI b (KX ℓ)<|W'.ah a) h
theorem Wd.xe(e:W.h.get? a=.none):(W.back W').ah a=di (W'.ah a):=Wd.back_eq e rfl
theorem Wd.Hid.fk(x:W.Hid aj)(y:aj.Go aT):W.Fk (W.back aT) where
 keep:=λa o e l=>y.keep a o (x.keep a o e) (x.none e l)
 free:=λa o e l=>(Wd.vJ e l).trans (y.free a o (x.keep a o e)<|x.none e l)
 out:=λa o e l=>(Wd.sh e l rfl).trans (y.out a o (x.keep a o e)<|x.own e l rfl)
 outk:=λa o e l=>y.outk a o (x.keep a o e) (x.own e l rfl)
 dq:=λn hn=>(y.dq n<|x.N.symm▸hn).trans (U0 x.dq n)
 N:=Ss (SA x.N.symm) y.N
 aL:=λd n es k e l=>iS.casesOn (y.aL d n es k (x.keep _ _ e)<|x.own e l rfl) λmore k' e' l'=>⟨more,k',e',(Wd.sh e l rfl).trans l'⟩
 seen:=λa o ℓ p e l=>⟨y.outk a o (x.keep a o e)<|x.frame e l p,Wd.BA e l p⟩
theorem Wd.Hid.CB(x:W.Hid aj)(y:aj.Go aT):aT.Kp aF.own (W.back aT):=
 have key:=λa h=>
  Sl (motive:=λq=>W.h.get? a=q->(W.back aT).ah a=aT.ah a) (W.h.get? a)
   (λe=>(Wd.xe e).trans<|Sl (motive:=λq=>aT.ah a=q->di q=q) (aT.ah a) (λu0=>rfl) (λℓ l=>o9 (h ℓ l).1) rfl)
   (λo e=>Wd.EH e λℓ l=>Tb (motive:=λb=>ℓ.bC=b->ℓ.bC=Sj) ℓ.bC id (λq=>((h _<|y.out a o (x.keep a o e)<|x.frame e l q).2 rfl).elim) rfl) rfl
 {keep:=λu0 u1 e u2=>e
  free:=λa O u1 l=>(key a λu0 q=>au<|l.symm.trans q).trans l
  dq:=λu0 u1=>rfl
  N:=SN _
  lk:=λa O ℓ p e l=>⟨e,(key a λu0 q=>R9 (l.symm.trans q)▸p).trans l⟩}
end
structure mV(S:bf)(T:cU)(tb:gh)(f:Sf)(d:iO) where
 a:SJ
 o:Xl
 fd:Wa
 fS:R5 Arg
 dd:R5 SE
 body:R5 T1
 iN:R5 Se
 bK:S.bK f=.ref a
 ho:T.base.get? a=KX o
 ne:a≠T.tp
 hd:o.data=.func fd
 params:fd.params=⟨[],fS,Sd,[],[],Sd,dd⟩
 wg:fd.body=.stmts body
 Pd:fd.closure=[]
 gl:fd.globals=TA
 bl:fd.builtins=Xw
 sc:nM fd.scope=R8
 kinds:fd.scope.names.all (λp=>decide (p.2=.local)||decide (p.2=.cell)||decide (p.2=.globalImplicit))=R8
 names:fS.map (·.arg)=(fd.scope.names.map (·.1)).take d.ar
 pk:(fd.scope.names.take d.ar).all (λp=>decide (p.2=.local)||decide (p.2=.cell))=R8
 put:∀i:Sf,(bJ fd.scope.names)[i]? =KX (("put_in":SS),VK.c)->fd.code=.ref S.tc
 fH:d.fH=fd.scope.names.length
 ar:d.ar<=d.fH
 LJ:d.dfl.length<=d.ar
 cd:∃c o vs t,fd.code=.ref c/\c≠T.tp/\T.base.get? c=KX o/\o.data=.fields vs/\vs[1]? =KX (.str fd.qualname t)
 dv:(fd.defaults=.none/\iN=[])\/∃t o m,fd.defaults=.ref t/\t≠T.tp/\T.base.get? t=KX o/\o.data=.seq iN.toArray m
 dr:∀W,dU S T W->aA S W iN d.dfl
def sk(S:bf)(T:cU)(tb:gh)(f:Sf)(d:iO):Prop:=
 ∃(F:mV S T tb f d) (k:Sf),cI tb k (bJ F.fd.scope.names) d.body F.body=R8
theorem lookup_at{l:R5 (SS×α)}:∀{i:Sf} {x:SS} {k:α},(l.map (·.1)).Nodup->l[i]? =KX (x,k)->l.lookup x=KX k:=by
 induction l with
 |nil=>exact λu0 h=>au h
 |cons p l ih=>exact fun{i x k}=>SW i (λu0 h=>R9 h▸gq) λi nd h=>have h:l[i]? =KX (x,k):=h;(gL λe:x=p.1=>(List.nodup_cons.mp nd).1 ((R6 (·∈l.map (·.1)) e).mp<|ZW<|SM h)).trans (ih (List.nodup_cons.mp nd).2 h)
theorem vj{x:SS}{names:R5 (SS×Tq)}:∀{n:Sf} {acc:R5 (SS×SJ)},(x,YC)∈names\/(acc.lookup x).isSome=R8->((cellsFrom n names acc).lookup x).isSome=true:=by
 induction names with
 |nil=>exact λh=>h.elim (λh=>nomatch h) id
 |cons p r ih=>
  intro n acc h
  induction p using Wn with|mk y k=>
  refine if c:(k==.cell)=R8 then(R6 (λl:R5 (SS×SJ)=>(l.lookup x).isSome=R8)<|Sv c).mpr (ih ?_) else(R6 (λl:R5 (SS×SJ)=>(l.lookup x).isSome=R8)<|SI c).mpr (ih<|h.imp (λh=>(List.mem_cons.mp h).elim (λe:(x,YC)=(y,k)=>(c<|(R6 (λq:SS×Tq=>(q.2==.cell)=R8) e).mp rfl).elim) id) id)
  have hd:x=y->(((y,n)::acc).lookup x).isSome=true:=λe=>e▸R6 YR (gq);exact h.elim (λh=>(List.mem_cons.mp h).elim (λe:(x,YC)=(y,k)=> .inr<|hd<|R6 VJ e) .inl) λh=> .inr (if e:x=y then hd e else(R6 YR<|gL e).trans h)
section
variable{B:NV->(SS->Sh Se)->SS->Sh Se}{u:SS×Se->(SS->Sh Se)->SS->Sh Se}{G:SS->Prop}(h0:∀m,B [] m=m)(h1:∀p l m,B (p::l) m=B l (u p m))(u1:∀p m x,x≠p.1->u p m x=m x)(u2:∀p m,G p.1->u p m p.1=KX p.2)
include h0 h1 u1
theorem B4{l:NV}{x:SS}:∀{m},x∉l.map (·.1)->B l m x=m x:=by
 induction l with
 |nil=>exact λu0=>U0 (h0 _) x
 |cons p l ih=>exact λh=>(U0 (h1 p l _) x).trans<|(ih λq=>h<|.tail _ q).trans<|u1 _ _ _ λe:x=p.1=>h<|e▸VB
include u2
theorem tj{l:NV}{x:SS}(hg:G x):∀{m},(l.map (·.1)).Nodup->l.lookup x=KX v->B l m x=KX v:=by
 induction l with
 |nil=>exact λu0 h=>au h
 |cons p l ih=>
  intro m nd h;refine(U0 (h1 p l _) x).trans (if e:x=p.1 then ?_ else ih (List.nodup_cons.mp nd).2 ((gL e).symm.trans h));subst e;exact(B4 h0 h1 u1 (List.nodup_cons.mp nd).1).trans<|(u2 p m hg).trans<|gq.symm.trans h
end
section
variable{kf:SS->Sh Tq}{l:NV}{m:SS->Sh Se}{x:SS}(nd:(l.map (·.1)).Nodup)(h:l.lookup x=KX v)
include nd h
theorem AS(hk:kf x=KX .local):bindL kf l m x=KX v:=
 tj (G:=λx=>kf x=KX .local) (λu0=>rfl) (λu0 u1 u2=>rfl)
  (λp m x e=>if c:kf p.1=KX .local then(U0 (Sv c) x).trans (SI e) else U0 (SI c) x) (λp m c=>(U0 (Sv c) p.1).trans<|Sv rfl) hk nd h
theorem Bh(hk:kf x≠KX .local):bindC kf l m x=KX v:=
 tj (G:=λx=>kf x≠KX .local) (λu0=>rfl) (λu0 u1 u2=>rfl)
  (λp m x e=>if c:kf p.1=KX .local then U0 (Sv c) x else(U0 (SI c) x).trans (SI e)) (λp m c=>(U0 (SI c) p.1).trans<|Sv rfl) hk nd h
end
end
end
noncomputable section
open PySem PySem.W PySem.Spec PySem.Calls PyProof.Rows
variable{W W' aj W₀ aT W'':Wd}{n k j c f ep k1 jn k2 c':Sf}{S:bf}{s ai s':Sn}{A:Vj}{E Q G:Se->Sn->Prop}{tb:gh}{T:cU}{ks:R5 (SS×VK)}{env:Xz}{P:PD}{loc loc':Loc}{r:Rec}{H H' H1 H2:Hp}{a d C D I ax tp l1 TI TO i1 i2:SJ}{p pos p' p1 p2 ap p3 p0 p6:Vu}{v q u it:Se}{l vs xs acc vs':R5 AV}{sv sv0 sv':SV}{ℓ abx:aF}{es:R5 Sk}{y e tg z el ox fE it2 it1:SE}{prog:Wm}{w:Yd}{fl:Fl}{b neg:Sq}{α β:Type}{o:Xl}{t tk:Tok}{K K':SK->Prop}{M:Model}{us ws:R5 Se}{as:R5 SJ}{sc:Xk}{R:ZG->Sn->Prop}{h' B:Tu}{Φ Φ':Wd->Prop}{es':Td (SK×Se)}{cap:R5 (Sh Sf)}{t':Uk}{kk elt:ME}{mA:SS->Sh Se}{name at' nm:SS}{ℓk:Sf->aF}{vk:VK}{J:Sf->Wd->Prop}{Jm:Sf->Se->Wd->Prop}{ts cs:R5 SE}{Z:Prop}{bb sts:R5 T1}{src:Src}{newId:WO}{ifs:R5 ME}
open Classical in
def Wd.enter(W:Wd)(h:Tu)(L:SJ)(ks:R5 (SS×VK))(cs:R5 (SS×SJ)):Wd:={W with
 h:=h
 ah:=λb=>if(W.h.get? b).isSome then di (W.ah b) else if b=L then KX .fl
  else if e:∃i x,ks[i]? =KX (x,VK.c)/\cs.lookup x=KX b then KX (.fc e.choose) else Sd}
section
variable{h:Tu}{L c:SJ}{cs:R5 (SS×SJ)}
theorem Wd.Cq(k:∀a o,W.h.get? a=KX o->h.get? a=KX o):W.Hid (W.enter h L ks cs):=
 ⟨k,λa o e=>Sv<|e▸rfl,rfl,rfl⟩
theorem Wd.Jn(hL:W.h.get? L=Sd):(W.enter h L ks cs).ah L=KX .fl:=(SI<|hL▸SR).trans<|Sv rfl
theorem Wd.Iu{i:Sf}{x:SS}(nd:(ks.map (·.1)).Nodup)(ap:cs.Pairwise λx y=>x.2≠y.2)(hc:W.h.get? c=Sd)(ne:c≠L)(hk:ks[i]? =KX (x,.c))(hl:cs.lookup x=KX c):
  (W.enter h L ks cs).ah c=KX (.fc i):=
 have e:=⟨i,x,hk,hl⟩
 (SI<|hc▸SR).trans ((SI ne).trans ((dif_pos e).trans (R6 (λi=>KX<|aF.fc i) (e.choose_spec.elim λy q=>
  have exy:=name_of_addr ap (mem_of_lookup q.2)<|mem_of_lookup hl;have h1:=(S1 ..).trans<|R6 (Uo _) q.1;have h2:(ks.map (·.1))[i]? =KX x:=(S1 ..).trans (R6 (Uo _) hk)
  (X6 (List.getElem?_eq_some_iff.mp h1).1 nd).mp (h1.trans<|(R6 KX exy).trans h2.symm)))))
end
theorem qY{P:Prop}(k:sc.kind=.function->sc.isGenerator=Sj->sc.isCoroutine=Sj->(sc.names.map (·.1)).Nodup->P)(h:nM sc=R8):P:=
 ae (λc d=>ae (λc e=>ae (λa b=>k (Sa a) (eO b) (eO e)<|Sa d) c) c) h
theorem oC{names:R5 (SS×Tq)}{i:Sf}{x:SS}{k:VK}(h:(bJ names)[i]? =KX (x,k)):∃q,names[i]? =KX (x,q)/\jO q=k:=
 bI (λp e q=>⟨p.2,e.trans<|R6 (λy=>KX (y,p.2))<|R6 VJ q,R6 Xn q⟩) ((S1 ..).symm.trans h)
theorem zW{names:R5 (SS×Tq)}:(bJ names).map (·.1)=names.map (·.1):=UT
theorem wL{q:Tq}{P:Tq->Prop}(a:P .local)(b:P .cell)(c:P .globalImplicit)(h:(decide (q=.local)||decide (q=.cell)||decide (q=.globalImplicit))=R8):P q:=
 (Bool.or_eq_true_iff.mp h).elim (λh=>(Bool.or_eq_true_iff.mp h).elim (λh=>Sa h▸a) λh=>Sa h▸b) λh=>Sa h▸c
noncomputable def PW(f:WX):Value:=Flow.casesOn f .none .none .none λv=>v
section
theorem aA.drop:∀{vs:R5 Se} (k:Sf),aA S W vs l->aA S W (vs.drop k) (l.drop k):=by
 induction l with
 |nil=>exact λk h=>h.bN<|SW k aA.nil λu0=>aA.nil
 |cons x l ih=>exact λk h=>SW k h λk=>h.aU λu0 u1 u2 b=>ih k b
inductive tX(S:bf)(W:Wd)(l:NV)(y:SS)(sv:SV):Prop
 |arg (v:Se) (av:AV):l.lookup y=KX v->sv=.fr av->RV S W v av->tX S W l y sv
 |un:sv=.un->tX S W l y sv
theorem valAt{names:R5 (SS×Tq)}{ar m i:Sf}{vals:R5 Se}{y:SS}{q:Tq}(nd:(names.map (·.1)).Nodup)(rv:aA S W vals vs')(lv:vs'.length=ar)(e1:names[i]? =KX (y,q))(hl:(vs'.map SV.fr++S9 m .un)[i]? =KX sv):
  tX S W (((names.map (·.1)).take ar).zip vals) y sv:=
 if c:i<(vs'.map SV.fr).length then
  bI (λav e3 e=>(rv.get e3).elim λv q=> .arg v av (zip_get (nd.sublist<|aaq _ _) ((List.getElem?_take_of_lt<|lv▸Sr SV.fr▸c).trans<|(S1 ..).trans<|R6 (Uo _) e1) q.1) e.symm q.2) ((S1 ..).symm.trans ((TV c).symm.trans hl))
 else .un (List.eq_of_mem_replicate<|SM<|(List.getElem?_append_right<|Nat.not_lt.mp c).symm.trans hl)
theorem aN.deep(rm:aN A (n+1)):aN (A.deeper env) n:=⟨rm.hd,Sb (S6 (Uh A.depth 1 (2*n)▸S2 (VT 1 (2*n)▸Tn (2*n+1)) A.depth) 4) rm.dep,Sb (S6 (Uh A.units 3 (16*n)▸S2 (VT 3 (16*n)▸S2 (by decide) (16*n)) A.units) 300) rm.un⟩
theorem Mj{u a d:Sf}(l1:u<=a)(l2:a<=u+d):u+(d-(d-(a-u)))=a:=(R6 (u+·)<|aaQ<|Nat.sub_le_iff_le_add'.mpr l2).trans<|UJ l1
theorem N8{u a d:Sf}(l1:u<=a)(l3:d<=a):u-(a-d)=d-(a-u):=(aaB _ l3).trans<|VT u d▸(aaB _ l1).symm
theorem call_in{st:bU S T P tb}{d:iO}(F:mV S T tb f d)(rm:aN A (n+1))(hs:s.heap=W.h)(ok:dU S T W)(hr:HR S W H)(rv:aA S W us vs)(ha:kq d vs=KX vs')
  (g:∀env ai aj,ai.heap=aj.h->ai.gens=s.gens->ai.os=s.os->W.Hid aj->aN (A.deeper env) n->St S T aj env (bJ F.fd.scope.names) (vs'.map .fr++S9 (d.fH-d.ar) .un) H->
   Sm (md S) (A.deeper env) (Yc F.body env) (λfl s'=>R (.ok<|.ret<|PW fl) s') (λu0 u1=>Ue) ai):
  Um (md S) A (.call (S.bK f) ⟨us,[]⟩) R s:=by
 have base:=fun{b o} e ne=>(hs.symm▸(ok.base b o e ne).1);refine aR (λl e=> ?_) ha;refine qY (λsc1 sc2 sc3 nd=> ?_) F.sc;have hcd:s.heap.CodeRec F.fd.code F.fd.qualname:=F.cd.elim λc q=>q.elim λo q=>q.elim λvs q=>q.elim λt q=>⟨c,o,vs,t,q.1,base q.2.2.1 q.2.1,q.2.2.2⟩;have hlim:=hs▸ok.lim st.lim st.lim';refine F.bK▸codeAny_call_function (Sb (S0 A.depth _)<|Uh A.depth _ 4▸rm.dep) (base F.ho F.ne) F.hd sc3 sc2 F.wg hcd ?_;have lus:=rv.length;have ldv:=(F.dr W ok).length
 let ns:=(F.fd.scope.names.map (·.1)).take d.ar
 have lns:ns.length=d.ar:=List.length_take.trans<|(R6 (min d.ar)<|(Sr ..).trans F.fH.symm).trans<|U6 F.ar;have ndn:ns.Nodup:=nd.sublist<|aaq _ _
 let m:=d.ar-d.dfl.length
 let vals:=us++F.iN.drop (us.drop m).length
 have lum:(us.drop m).length=d.dfl.length-(d.ar-vs.length):=List.length_drop.trans<|lus.symm▸N8 l.1 F.LJ;have rvals:aA S W vals vs':=R9 e▸aA.append (lum.symm▸(F.dr W ok).drop _) rv;have lvs:=R9 e▸List.length_append.trans ((R6 (vs.length+·) WS).trans<|Mj l.1 l.2);have lvals:=rvals.length.trans lvs;have hm:=Nat.sub_le_iff_le_add.mpr<|lus.symm▸l.2;have hmn:m<=ns.length:=lns.symm▸XY _ _;have lnm:(ns.drop m).length=d.dfl.length:=List.length_drop.trans<|lns.symm▸aaQ F.LJ;have hsq:∃items:Sh (Td Se),(items.getD #[]).toList=F.iN/\∀{Q:Sh (Td Se)->Sn->Prop},Q items s->Sm (md S) A.in1 (seqItems? F.fd.defaults) Q (λu0 u1=>Ue) s:=
  F.dv.elim (λq=>⟨Sd,q.2.symm,fun{Q} hq=>q.1.symm▸Sg hq⟩) λq=>q.elim λt q=>q.elim λo q=>q.elim λmm q=>⟨KX F.iN.toArray,rfl,fun{Q} hq=>q.1.symm▸XQ (base q.2.2.1 q.2.1) q.2.2.2 hq⟩;have hbinds:Sm (md S) A.in1 (bindArgs F.fd ⟨us,[]⟩) (λbinds ai=>binds=ns.zip vals/\ai=s) (λu0 u1=>Ue) s:=hsq.elim λitems q=>
  Fh F.params F.names (Ut m ns).symm (Ut m us).symm ndn q.2 q.1 (List.length_take.trans<|(U6 hm).trans<|(U6 hmn).symm.trans List.length_take.symm) (lnm.trans ldv.symm)
   (lum.symm▸lnm.symm▸XY _ _) ⟨rfl,rfl⟩;refine TS hbinds (λbinds ai hb=> ?_) λu0 u1 x=>x.elim;have zn:=List.map_fst_zip<|SA<|lns.trans lvals.symm;have hk:∀y∈ns.zip vals,F.fd.scope.names.lookup y.1=KX .local\/(F.fd.scope.names.lookup y.1=KX .cell/\((cellsFrom (s.heap.objs.size+1) F.fd.scope.names []).lookup y.1).isSome=R8):=λy hy=>by have hm:=(R6 (y.1∈·)<|zn.trans List.map_take.symm).mp<|ZW hy;refine(List.mem_map.mp hm).elim λp hp=>hp.2▸ ?_;have mem:=ZL hp.1;refine(List.mem_iff_getElem?.mp mem).elim λi hi=> ?_;have lk:=lookup_at nd hi;exact(Bool.or_eq_true_iff.mp<|List.all_eq_true.mp F.pk p hp.1).imp (λh=>lk.trans<|R6 KX<|Sa h) λh=>have h:=Sa h;⟨lk.trans<|R6 KX h,vj<|.inl<|(R6 (λk=>(p.1,k)∈F.fd.scope.names) h).mp mem⟩
 refine(R6 (λc=>Sm (md S) A.in1 (Zz F.fd.scope F.fd.globals c binds (F.fd.qualname++".<locals>.") (KX F.a) F.fd.code Sd F.fd.builtins) _ _ ai) F.Pd).mpr ?_;refine hb.1▸hb.2▸wpAny_newFunctionEnv_cells sc1 hk λenv he aX X=> ?_;refine ⟨hlim.keeps X.toInCall.keep,codeAny_func ?_⟩;have d8:W.Hid (W.enter aX.heap env.locals (bJ F.fd.scope.names) env.cells):=Wd.Cq λa o e=>X.toInCall.keep a o<|hs▸e;refine X.toInCall.same.elim λvc q=>q.elim λtk MG=> ?_;have ndk:=zW▸nd;have new:∀b,env.locals<=b->W.h.get? b=none:=λb hb=>bz<|Ss (hs▸X.toInCall.fresh) hb;have esc:env.scope=F.fd.scope:=he▸rfl;have ekf:=λx=>R6 (λsc:Xk=>sc.names.lookup x) esc;have gg:=g env aX (W.enter aX.heap env.locals (bJ F.fd.scope.names) env.cells) rfl (MG▸rfl) (MG▸rfl) d8 rm.deep;refine TS (gg ⟨ok.kp d8.kp ⟨rfl,λe=>nomatch e⟩,hr.kp d8.kp rfl λm ℓ h=>by induction ℓ using aF.casesOn<;>first|exact h.elim|exact ⟨rfl,λq=>nomatch q⟩,?_⟩) (λfl O x=>by induction fl using Flow.casesOn<;>exact x) λu0 u1 x=>x.elim;have ndz:=zn.symm▸ndn;exact{
  kind:=esc▸sc1
  gl:=he▸F.gl
  bl:=he▸F.bl
  kn:=λi x k hi=>(oC hi).elim λq hq=>esc▸hq.2▸wL (P:=λq=>F.fd.scope.names.lookup x=KX q->uc F.fd.scope x (jO q)) id id id (List.all_eq_true.mp F.kinds (x,q)<|SM hq.1) (lookup_at nd hq.1)
  nd:=ndk
  len:=List.length_append.trans ((congr (R6 HAdd.hAdd<|(Sr ..).trans lvs) ZI).trans<|(UJ F.ar).trans<|F.fH.trans (Sr ..).symm)
  ah:=Wd.Jn (new _<|SN _)
  cod:=λi hi=>he▸F.put i hi
  sl:=⟨_,X.toInCall.ns,λi x k sv hi hl=>(oC hi).elim λq hq=>by
   have e1:=hq.1;refine hq.2▸wL (P:=λq=>F.fd.scope.names[i]? =KX (x,q)->(bJ F.fd.scope.names)[i]? =KX (x,jO q)->iB S (W.enter aX.heap env.locals (bJ F.fd.scope.names) env.cells) env (bindL env.kindOf (ns.zip vals) λu0=>Sd) i x sv (jO q)) (λe1 O=> ?_) (λe1 hi=> ?_) (λu0 u1=>trivial) (List.all_eq_true.mp F.kinds (x,q)<|SM e1) e1 (hq.2▸hi)
   ·exact tX.casesOn (valAt nd rvals lvs e1 hl) (λv av h1 h2 h3=>n7.at v (AS ndz h1<|(ekf x).trans<|lookup_at nd e1) (h2▸(bV.fr<|h3.bE d8.go.toFe))) λh=>n7.un h
   ·refine(Option.isSome_iff_exists.mp<|vj (n:=s.heap.objs.size+1) (acc:=[])<|.inl<|SM e1).elim λc hc=> ?_
    have hce:env.cells.lookup x=KX c:=he▸hc;refine(X.cell x c hce).elim λo ho=> ?_;have above:=X.above x c<|mem_of_lookup hce;have lb:=Wd.Iu (h:=aX.heap) ndk X.apart (new c<|SQ above) (Ya above) hi hce;exact tX.casesOn (valAt nd rvals lvs e1 hl) (λv av h1 h2 h3=>n8.at c o v av hce lb ho.1 h2 (ho.2.trans<|R6 Data.cell<|Bh ndz h1 λq=>nomatch ((ekf x).trans<|lookup_at nd e1).symm.trans q) (h3.bE d8.go.toFe)) λh=>n8.un c o _ hce lb ho.1 h ho.2⟩}
end
theorem kJ{m:Sf}(h:ℓ.ofEntry m):ℓ.own:=by
 induction ℓ using aF.casesOn<;>first|exact h.elim|exact ⟨rfl,λq=>nomatch q⟩
theorem nV:aF.own .tab:=⟨rfl,λq=>nomatch q⟩
section
theorem Qn(st:bU S T P tb)(fns:∀f d,P.fns[f]? =KX d->sk S T tb f d)(hss:jv S T tb r n):pj S T (step P r) (n+1):=by
 intro f vs us A s W H v H' Q E rm hs ok hr rv h g;refine bG (λd hd h=>(fns f d hd).elim λF c=>c.elim λk chk=>bG (λvs' ha h=>lU (λfl loc1 H1 h1 h=> ?_) h) h) h;refine call_in (st:=st) F rm hs ok hr rv ha λenv ai aj a1 a2 a3 d8 rm' sx=>hss chk rm' a1 sx h1 λf aX aT b1 b2 b3 go b5=> ?_;have kb:=d8.CB go;have fin:∀{q u},KX (u,H1)=KX (v,H')->RV S aT q u->wants Q E (.ok<|.ret q) aX:=fun{q _} h rq=>
  ((R6 (λp:AV×Hp=>ve s W (λq W'=>W.Fk W'/\dU S T W'/\HR S W' p.2/\RV S W' q p.1) Q)<|R9 h).mpr g) q aX (W.back aT) b1 (b2.trans a2) (b3.trans a3) (d8.fk go) ⟨d8.fk go,b5.1.ok.kp kb nV,b5.1.hr.kp kb rfl λu0 u1=>kJ,rq.bE kb.toFe⟩;have b6:=b5.2
 induction fl using Fl.casesOn with
 |nx=>have e:=b6;subst e;exact fin h .none
 |ct=>exact au h
 |rt v=>
  have rr:=b6
  induction rr with
  | @mk q rq=>exact fin h rq
end
theorem jR{P:α->Prop}{c:Prop}[X7 c]{a b:α}(ha:c->P a)(hb:¬c->P b):P (if c then a else b):=if h:c then(R6 P<|Sv h).mpr (ha h) else(R6 P<|SI h).mpr (hb h)
theorem Br{f:α->Sh β}{G:α->β->Prop}{a b:α}(h:([a,b].filterMap f).length=2)(nm:∀t x,f t=KX x->G t x):∃x y,G a x/\G b y/\ [a,b].filterMap f=[x,y]:=by
 generalize ea:f a=x;generalize eb:f b=y;have e:[a,b].filterMap f=(Sl x [] λx=> [x])++(Sl y [] λy=> [y]):=by
  rw[Wl,Wl,ea,eb]
  induction x using Sl<;>induction y using Sl<;>rfl
 rw[e] at h
 induction x using Sl with
 |none=>induction y using Sl<;>exact nomatch h
 |some x=>induction y using Sl with
  |none=>exact nomatch h
  |some y=>exact ⟨x,y,nm a x ea,nm b y eb,e⟩
theorem BK{x:SS}(h:([x,x].eraseDups).length=2):False:=by rw[List.eraseDups_cons,WU (by rw[U1];decide)] at h;exact nomatch h
noncomputable def Q8(env:Xz)(ts:R5 SE)(X:Sem (Sh<|R5 SS)):Prop:=X=pure Sd\/∃a p1 b p2,ts=[.Name a p1,.Name b p2]/\env.kindOf a=KX .local/\env.kindOf b=KX .local/\a≠b/\X=pure (KX [a,b])
theorem or3{a:Sq}(h:¬((a||b)=R8)):a=Sj/\b=false:=⟨Bool.eq_false_iff.mpr λq=>h<|Bool.or_eq_true_iff.mpr<|.inl q,Bool.eq_false_iff.mpr λq=>h<|Bool.or_eq_true_iff.mpr<|.inr q⟩
theorem ne3{a b:Sf}(h:(a !=b)=Sj):a=b:=bne_eq_false_iff_eq.mp h
theorem EB{f:SE->Sh SS}(lt:ts.length=2)(l1:(ts.filterMap f).length=2)(l2:(ts.filterMap f).eraseDups.length=2)(nm:∀t x,f t=KX x->∃p,t=Expr.Name x p/\env.kindOf x=KX .local):
  ∃a p1 b p2,ts=[.Name a p1,.Name b p2]/\env.kindOf a=KX .local/\env.kindOf b=KX .local/\a≠b/\(pure (KX<|ts.filterMap f):Sem (Sh<|R5 SS))=pure (KX [a,b]):=by
 induction ts using Sp with|nil=>exact nomatch lt|cons t1 ts=> ?_
 induction ts using Sp with|nil=>exact nomatch lt|cons t2 ts=> ?_
 induction ts using Sp with|cons _ _=>exact nomatch lt|nil=> ?_
 exact(Br l1 nm).elim λa q=>q.elim λb q=>q.1.elim λp1 k1=>q.2.1.elim λp2 k2=>⟨a,p1,b,p2,k1.1▸k2.1▸rfl,k1.2,k2.2,λe=>BK<|(R6 (λl:R5 SS=>l.eraseDups.length=2)<|e▸q.2.2).mp l2,R6 (λl=>pure<|KX l) q.2.2⟩
set_option tactic.hygienic true in
theorem pO(hw:uq y=R8):Q8 env ts (swappedStores [.Tuple ts c p] y env):=by
 induction y using SH<;>first|exact .inl rfl|skip
 rename_i vs c' p'
 refine jR (λu0=> .inl rfl) λh1=>jR (λu0=> .inl rfl) λu0=>jR (λu0=> .inl rfl) λh3=>jR (λu0=> .inl rfl) λh4=> ?_;have hw:=jX<|(Bool.or_eq_true_iff.mp hw).elim (λh=>(h4 h).elim) id;refine jR (λh=>(SR<|(eO hw.1).symm.trans h).elim) λh5=> .inr ?_;have lt:=(ne3 (or3 λq=>h1<|Bool.or_eq_true_iff.mpr<|.inl q).2).symm.trans (Sa hw.2);have l1:=(ne3 (or3 h3).1).trans lt;exact EB lt l1 ((ne3 (or3 h3).2).trans l1) λt x h=>by
  induction t using SH<;>first|exact au h|exact aR (λc e=>⟨_,R6 (λy=>Expr.Name y _)<|R9 e,R9 e▸eq_of_beq (Bool.and_eq_true_iff.mp c).1⟩) h
section
variable{Q:WX->Sn->Prop}
theorem qV{x t:SE}{l:Sf}(h:dP x=Sj):swapsWithSole [t] x l env=pure false:=by
 induction x using SH<;>first|rfl|exact V6 h
theorem Lu(F0:FR S W env ks loc){i:Sf}{x:SS}{k:VK}(hi:ks[i]? =KX (x,k))(hk:env.kindOf x=KX .local):k=.l:=by
 have kn:=F0.kn i x k hi
 induction k using VK.casesOn
 ·rfl
 ·exact nomatch hk.symm.trans kn
 ·exact kn.elim (λkn=>nomatch hk.symm.trans kn) λkn=>nomatch hk.symm.trans kn
 ·exact nomatch hk.symm.trans kn
theorem sZ(F0:FR S W env ks loc){t:Tg}{x:SS}(hk:env.kindOf x=KX .local)(c:dX ks t (.Name x p)=R8):∃i,t=.n i/\ks[i]? =KX (x,.l):=by
 induction t using Tg.casesOn with
 |n i=>exact da (P:=λo=>ks[i]? =o->_) (λy c e=>ae (λa O=>have e:=e.trans (R6 (λz=>KX (z,y.2))<|Sa a);⟨i,rfl,Lu F0 e hk▸e⟩) c) c rfl
 |t l=>exact bc c
theorem CZ(rm:aN A n)(F0:FR S W env ks loc){t:Tg}{v:AV}(nc:dP y=Sj)(sw:uq y=R8)(ct:dX ks t (.Tuple ts c p')=R8)
  (hev:∀{G:Se->Sn->Prop},(∀q s2 W2,s2.heap=W2.h->s2.gens=s.gens->s2.os=s.os->W.Go W2->St S T W2 env ks loc H'->RV S W2 q v->G q s2)->Sm (md S) A (TN y env) G E s) (h2:gm t v loc=KX loc') (g:SG S T env ks loc' H' .nx s W Q):Sm (md S) A (Ve (.Assign [.Tuple ts c p'] y p) env) Q E s:=by
 refine(pO sw).elim (λhw=>XX (hev λq s2 W2 b1 b2 b3 b4 b51 b52=>Ep rm b1 b51 ct h2 b52 λs3 W3 c1 c2 c3 c4 c5=>(g.after b2 b3 b4).fin ⟨c1,c2,c3,c4⟩ c5 rfl) (qV nc) hw)
  λq=>q.elim λx q=>q.elim λp1 q=>q.elim λy' q=>q.elim λp2 q=>W9 (hev λqv s2 W2 b1 b2 b3 b4 b51 b52=> ?_) (qV nc) q.2.2.2.2;have ct:=(R6 (λts=>dX ks t (.Tuple ts c p')=R8) q.1).mp ct
 induction t using Tg.casesOn with|n i=>exact bc ct|t tl=> ?_
 induction tl using Sp with|nil=>exact bc ct|cons t1 tl=> ?_
 induction tl using Sp with|nil=>exact bc (jX ct).2|cons t2 tl=> ?_
 induction tl using Sp with|cons _ _=>exact bc (jX (jX ct).2).2|nil=> ?_
 refine(sZ F0 q.2.1 (jX (jX ct).1).2).elim λi hi=>(sZ F0 q.2.2.1 (jX (jX (jX ct).2).1).2).elim λj hj=> ?_;have ij:=λe=>q.2.2.2.1<|R6 VJ<|R9<|hi.2.symm.trans ((R6 (λi=>ks[i]?) e).trans hj.2);have fin:∀vs,pE [t1,t2] vs loc=KX loc'->(RV S W2 qv (.tup vs)\/RV S W2 qv (.lst vs))->Sm (md S) A (Zb qv 2 Sd) (λitems aX=>Sm (md S) A (ZT ([bindName env y',bindName env x]) items.reverse) (λu0=>Q .next) E aX) E s2:=by
  intro vs ht rq;rw[hi.1,hj.1] at ht
  induction vs using Sp with|nil=>exact au ht|cons v1 vs=> ?_
  refine kL (λloc1 e1 ht=> ?_) ht
  induction vs using Sp with|nil=>exact au ht|cons v2 vs=> ?_
  refine kL (λloc2 e2 ht=> ?_) ht
  induction vs using Sp with|cons _ _=>exact au ht|nil=> ?_
  have el:=aR (λu0 e1=>aR (λu0 e2=>(abo _ _<|Up ij).trans<|(R6 (λl:Loc=>l.set j<|.fr v2)<|R9 e1).trans<|(R9 e2).trans<|R9 ht) e2) e1;refine xm rm.hd b1 rq rfl λus ai aj a1 a2 a3 a4 a5=> ?_;refine a5.aU λu1 us r1 a5=>a5.aU λu2 us r2 a5=>a5.bN ?_;refine UM<|XS<|fO a1 (b51.mv a4 λu0=>id) hj.2 (.inl rfl) (bV.fr r2) λs3 W3 c1 c2 c3 c4 c5=>UM<|XS<|fO c1 c5 hi.2 (.inl rfl) (bV.fr<|r1.mono c4.toLe) λs4 W4 d1 d2 d3 d4 d5=>Sg ?_;exact g.fin (eU.trans ⟨b1,b2,b3,b4⟩<|eU.trans ⟨a1,a2,a3,a4.go id λu0=>id⟩<|eU.trans ⟨c1,c2,c3,c4⟩ ⟨d1,d2,d3,d4⟩) (el▸d5) rfl
 exact AV.dG (λvs h rq=>fin vs h<|.inl rq) h2 (λh rq=>AV.dH (λvs h rq=>fin vs h<|.inr rq) h (λh O=>au h) rq) b52
theorem ML(he:bH S T tb r n)(rm:aN A n)(hs:s.heap=W.h)(sx:St S T W env ks loc H){t:Tg}{a:ME}{v:AV}(nc:dP y=Sj)(sw:uq y=R8)(ct:dX ks t (.Tuple ts c p')=R8)(ca:aK tb k ks a y=R8)
  (h:r.e a loc H=KX (v,H')) (h2:gm t v loc=KX loc') (g:SG S T env ks loc' H' .nx s W Q):Sm (md S) A (Ve (.Assign [.Tuple ts c p'] y p) env) Q E s:=
 CZ rm sx.fr nc sw ct (λg=>he ca rm hs sx h λq s2 W2 b1 b2 b3 b4 b5=>g q s2 W2 b1 b2 b3 b4.toGo b5.1 b5.2) h2 g
end
section
variable{Q:WX->Sn->Prop}
theorem oj{i:Sf}{p:Sf×SV}{l:R5 (Sf×SV)}(h:cL i (p::l)=Sd):p.1≠i/\cL i l=none:=
 if c:p.1=i then au (h.symm.trans (Sv c)) else ⟨c,(SI c).symm.trans h⟩
theorem Bw{i:Sf}{x:SV}{l:R5 (Sf×SV)}:cL i l=Sd->i≠j->cL i (l++[(j,x)])=none:=by
 induction l with
 |nil=>exact λu0 ne=>SI<|Up ne
 |cons p l ih=>exact λh ne=>have q:=oj h;(SI q.1).trans (ih q.2 ne)
theorem bY.snoc{m i:Sf}{x:SV}{l:R5 (Sf×SV)}:∀{es:R5 Sk},bY S W m es l->cL i l=Sd->bV S W (.ha m i) (.hk m i) v x->bY S W m (es++[⟨Tw S.w.params<|S.nm i,.str (S.nm i) t,v⟩]) (l++[(i,x)]):=by
 induction l with
 |nil=>exact λr O h=>r.bN<|bY.cons rfl h bY.nil
 |cons p l ih=>exact λr hn h=>have q:=oj hn;r.aU λu0 u1 u2 z a b=>bY.cons (Bw z q.1) a<|ih b q.2 h
theorem DO{hsh:SK}{key:Se}(h:∀e∈es,¬e.key.isStr name=R8):putL name hsh key v es=es++[⟨hsh,key,v⟩]:=by
 induction es with
 |nil=>rfl
 |cons e es ih=>exact(SI<|h e<|.head _).trans (R6 (e::·)<|ih λx m=>h x<|.tail _ m)
theorem IE{sl:Td (Sh Se)}{y:SS}(X:T.K.In s.heap)(h1:s.heap.get? a=KX (eE C d sl))(h2:s.heap.get? d=KX (aI es j))
  (hp:YZ T.K C=R8) (ht:aaa T.K C y=KX Sd) (hh:VX T.K C=R8) (hn:es.find? (·.key.isStr y)=Sd) (hk:es.any (·.refKey)=Sj) (hz:es.length<900)
  (g:∀h' t j',SO d s.heap h'->h'.get? d=KX (aI (es++[⟨Tw S.w.params y,.str y t,q⟩]) j')->∀tk,R (.ok<|.ret .none) {s with heap:=h',toks:=tk}):
  Um (md S) A (.call (.builtin "object.__setattr__") ⟨[.ref a,.str y tk,q],[]⟩) R s:=by
 have I:=j0 h1 h2;refine osa_open X I hp ht λb=> ?_;refine(any_some hh).elim λcd hc=> ?_;refine R7<|Sg<|R7<|R7<|wpAny_loadPart h1<|R7<|(looks_clsIn X hc.1).here ?_;rw[hc.2];refine Sg<|R7<|Sg<|R7 ?_;refine R7<|R7<|Vx<|Sg<|R7<|wpAny_mkText<|R7<|wpAny_loadPart h2 ?_;dsimp only;have c:=(R6 (!es.toArray.any (·.key.isStr y)&&·)<|List.any_toArray.trans hk).trans<|Xr _;rw[aRefKeyMayBeTheName_at,c];have e:Obj.putName y (Tw S.w.params y) (.str y s.toks) q (aI es j)=aI (es++[⟨Tw S.w.params y,.str y s.toks,q⟩]) (putN y es j):=
  (putName_dict ..).trans (R6 (λl=>aI l<|putN y es j)<|DO<|List.find?_eq_none.mp hn);have D':(s.heap.update d<|Obj.putName y (Tw S.w.params y) (.str y s.toks) q).get? d=KX (aI (es++[⟨Tw S.w.params y,.str y s.toks,q⟩])<|putN y es j):=e▸U9 _ h2 (e.symm▸rfl);refine wpAny_updatePart h2 ?_;refine R7<|YX D' (Y0<|List.size_toArray.symm▸List.length_append.symm▸Ss hz (by decide)) ?_;exact Sg<|g _ _ _ (VV _ _ _) D' _
theorem IJ{sl:Td (Sh Se)}{y:SS}{Q:TZ->Sn->Prop}(X:T.K.In s.heap)(h1:s.heap.get? a=KX (eE C d sl))(h2:s.heap.get? d=KX (aI es j))
  (hs:TB T.K (.ref C) "__setattr__"=KX (KX<|.builtin "object.__setattr__")) (hp:YZ T.K C=R8) (ht:aaa T.K C y=KX Sd) (hh:VX T.K C=R8) (hn:es.find? (·.key.isStr y)=Sd) (hk:es.any (·.refKey)=Sj) (hz:es.length<900)
  (g:∀h' t j',SO d s.heap h'->h'.get? d=KX (aI (es++[⟨Tw S.w.params y,.str y t,q⟩]) j')->∀tk,Q () {s with heap:=h',toks:=tk}):Sm (md S) A (setAttr (.ref a) y q) Q E s:=
 set_plain X (j0 h1 h2) hs (IE X h1 h2 hp ht hh hn hk hz λh' t j' a b tk=>g h' t j' a b tk)
theorem AG{m:Sf}{l:R5 (Sf×SV)}{x:Sf}{y:SS}(st:bU S T P tb)(r:bY S W m es l)(hn:cL x l=Sd)(hy:S.nm x=y):es.find? (·.key.isStr y)=Sd/\es.any (·.refKey)=false:=
 ⟨hy▸(r.look st x).not hn,r.tL⟩
theorem Ki{x:Sf}(h:oN P c x=R8):∃d,P.cls[c]? =KX d/\fY x d.meths=none:=
 da (P:=λo=>P.cls[c]? =o->∃d,P.cls[c]? =KX d/\fY x d.meths=Sd) (λd h hd=>⟨d,hd,Option.isNone_iff_eq_none.mp h⟩) h rfl
theorem GS(st:bU S T P tb)(hs:s.heap=W.h)(sx:St S T W env ks loc H){m x:Sf}{y:SS}{Q:TZ->Sn->Prop}(hy:tb.nm[x]? =KX y)(nm:oN P c x=R8){l:R5 (Sf×SV)}(he:H[m]? =KX (.inst c l))(hl:l.length<100)(hn:cL x l=Sd)
  (rq:bV S W (.ha m x) (.hk m x) q sv) (g:Ends s W (λW'=>St S T W' env ks loc<|H.set m<|.inst c<|l++[(x,sv)]) (Q ())):Sm (md S) A (setAttr (.ref<|W.ρ m) y q) Q E s:=by
 refine(Ki nm).elim λd hd=>hV.casesOn (sx.hr.at_ m _ he) λdd sl es j a1 b1 c1 d1 e1=> ?_;have f:=st.cst c d hd.1;have ny:=st.nm x y hy;have q0:=AG st e1 hn ny;refine IJ (hs▸sx.ok.iq st) (hs▸a1) (hs▸d1) f.1 f.2.1 (f.2.2 x y hy hd.2) (st.Eg c d hd.1).2 q0.1 q0.2 (e1.length.symm▸Sw hl (by decide)) λh' t j' sb D tk=> ?_;have sb:=(R6 (λq=>SO dd q h') hs).mp sb;have mv:=Wd.fG c1 sb;have n1:¬(aF.out=.hd m):=λe=>nomatch e;have n2:∀i,¬(aF.ha m i=.hd m):=λu0 e=>nomatch e;have n3:∀i k,¬(aF.hk m i k=.hd m):=λu0 u1 e=>nomatch e;have go:W.Go (W.grow h'):=⟨mv.le n1,λd' n' es' k' e' l'=>if q:d'=dd then by subst q;have e2:=R9<|d1.symm.trans e';have e3:=R9<|c1.symm.trans l';have e4:=R6 (λl:aF=>aF.casesOn (motive:=λu0=>Sf) l 0 0 (λu0=>0) (λu0=>0) id (λu0 u1=>0) (λu0 u1 u2=>0) (λu0=>0) 0) e3;have e5:=R6 Zm (Xh<|R6 X9 e2).1;subst e4 e5;exact ⟨_,j',D,(mv.ah _ _ d1).trans c1⟩
  else .same ((sb.2 _ q).trans e') ((mv.ah _ _ e').trans l')⟩;have hm':=(List.getElem?_eq_some_iff.mp he).1;refine g {s with heap:=h',toks:=tk} (W.grow h') rfl rfl rfl go ⟨sx.ok.mv mv n1 (λe=>nomatch e),⟨(UC ..).trans sx.hr.len,λm' e' he'=> ?_⟩,sx.fr.mv mv n1 λℓ h q=>nomatch ((R6 aF.bC q).symm.trans h)⟩;refine if q:m'=m then ?_ else(sx.hr.at_ m' e'<|(T3<|Up q).symm.trans he').kp (mv.lA n1) (sx.hr.len▸(List.getElem?_eq_some_iff.mp<|(T3<|Up q).symm.trans he').1) λℓ h e=>q ((R6 (aF.ofEntry m') e).mp h).symm
 subst q;refine R9 ((T8 hm').symm.trans he')▸(hV.mk dd sl _ j' (mv.tK a1 b1) ((mv.ah _ _ a1).trans b1) ((mv.ah _ _ d1).trans c1) D ?_);exact ny▸bY.snoc (bY.kp (mv.lA n1) n2 n3 e1) hn (rq.mv mv n1 (n2 x)<|n3 x)
theorem vi{m x:Sf}(h:fu P H m x sv=KX H'):∃c l,H[m]? =KX (.inst c l)/\l.length<100/\cL x l=Sd/\oN P c x=R8/\H'=H.set m (.inst c<|l++[(x,sv)]):=
 HE.gN (P:=λo=>H[m]? =o->∃c l,H[m]? =KX (.inst c l)/\l.length<100/\cL x l=Sd/\oN P c x=R8/\H'=H.set m (.inst c<|l++[(x,sv)])) (λc l h e=>aR (λq h=>⟨c,l,e,q.1,Option.isNone_iff_eq_none.mp q.2.1,q.2.2,(R9 h).symm⟩) h) h (λh O=>au h) rfl
theorem Qr(st:bU S T P tb)(he:bH S T tb r n)(rm:aN A n)(hs:s.heap=W.h)(sx:St S T W env ks loc H){a o:ME}{x:Sf}{v:AV}{m:Sf}(nc:dP y=Sj)(hx:tb.nm[x]? =KX at')(co:aK tb k ks o ox=R8)(ca:aK tb k ks a y=R8)
  (h:r.e a loc H=KX (v,H1)) (h2:r.e o loc H1=KX (.ref m,H2)) (h3:fu P H2 m x (.fr v)=KX H') (g:SG S T env ks loc H' .nx s W Q):Sm (md S) A (Ve (.Assign [.Attribute ox at' p1] y p) env) Q E s:=
 (vi h3).elim λc q=>q.elim λl q=>UR (eg he rm hs sx ca h λu ai aj a1 a2 a3 a4 a5 a6=>eg he rm a1 a5 co h2 λqo aX aT b1 b2 b3 b4 b5 b6=>b6.nI
  λu0=>GS st b1 b5 hx q.2.2.2.1 q.1 q.2.1 q.2.2.1 (.fr<|a6.mono b4.toLe) λnU yK c1 c2 c3 c4 c5=>((g.after a2 a3 a4.toGo).after b2 b3 b4.toGo).fin ⟨c1,c2,c3,c4⟩ (q.2.2.2.2▸c5) rfl)<|dD nc _ _ _
theorem DW{i:Sf}(e:aF.fs i=.fs j):i=j:=R6 (λl:aF=>aF.casesOn (motive:=λu0=>Sf) l 0 0 (λu0=>0) id (λu0=>0) (λu0 u1=>0) (λu0 u1 u2=>0) (λu0=>0) 0) e
theorem FR.Pr{Pk:aF->Prop}(mv:W.Kp Pk W')(h1:Pk .out)(h0:Pk .fl)(h2:∀i,i<ks.length->Pk (.fs i)/\Pk (.fc i))(r:FR S W env ks loc):FR S W' env ks loc:=
 rK.casesOn r.sl λm hm hs=>have q:=Ns.kp mv hm r.ah h0;{r with ah:=q.2,sl:=⟨m,q.1,λi x k sv a b=>have z:=h2 i (List.getElem?_eq_some_iff.mp a).1;(hs i x k sv a b).rJ mv h1 z.1 z.2⟩}
noncomputable def Wd.kB(W:Wd)(a:SJ)(ℓ:aF):Wd:={W with ah:=λb=>if b=a then KX ℓ else W.ah b}
theorem Wd.yi:(W.kB a ℓ).ah a=KX ℓ:=Sv rfl
theorem Wd.sD(h:W.ah a=KX abx):W.Kp (·≠abx) (W.kB a ℓ):=
 have key:∀{b o},W.ah b=o->o≠KX abx->(W.kB a ℓ).ah b=o:=λl nb=>(SI λq=>nb<|l.symm.trans ((R6 W.ah q).trans h)).trans l
 ⟨⟨λu0 u1 e u2=>e,λb o e l=>key l (λe=>nomatch e),λu0 u1=>rfl,SN _⟩,λb o ℓ' p e l=>⟨e,key l λe=>p<|R9 e⟩⟩
noncomputable abbrev jy(ks:R5 (SS×VK)):aF:=.fs ks.length
theorem Wd.xl(h:W.ah a=KX (jy ks)):W.Go (W.kB a ℓ):=
 have kp:=Wd.sD h
 ⟨⟨kp.toFe,λb o e l=>(kp.lk b o .out (λe=>nomatch e) e l).2,λb o e l=>(kp.lk b o .out (λe=>nomatch e) e l).1⟩,λd n es k e l=>have q:=kp.lk d _ (.hd n) (λe=>nomatch e) e l;.same q.1 q.2⟩
theorem St.kB(sx:St S T W env ks loc H)(h:W.ah a=KX (jy ks)):St S T (W.kB a ℓ) env ks loc H:=
 have kp:=Wd.sD h
 ⟨sx.ok.kp kp (λe=>nomatch e),sx.hr.kp kp rfl λn ℓ' h e=>(R6 (aF.ofEntry n) e).mp h,sx.fr.Pr kp (λe=>nomatch e) (λe=>nomatch e) λi hi=>⟨λe=>Tz hi<|DW e,λe=>nomatch e⟩⟩
theorem w6(hs:s.heap=W.h)(sx:St S T W env ks loc H)(hf:o.isFreed=Sj):W.Mv iz (W.gI (s.heap.push o) s.heap.objs.size ℓ)/\(W.gI (s.heap.push o) s.heap.objs.size ℓ).ah s.heap.objs.size=KX ℓ/\(W.gI (s.heap.push o) s.heap.objs.size ℓ).h.get? s.heap.objs.size=KX o/\St S T (W.gI (s.heap.push o) s.heap.objs.size ℓ) env ks loc H:=
 have mv:=Wd.p8 (λa x e=>bZ a x<|hs▸e) (hs▸bz (SN s.heap.objs.size))
 ⟨mv,Wd.mJ,SD s.heap hf,sx.mv mv λu0=>id⟩
theorem GV(st:bU S T P tb)(he:bH S T tb r n)(rm:aN A n)(hs:s.heap=W.h)(sx:St S T W env ks loc H){o:ME}{x:Sf}{m:Sf}{ob:Xl}(hf:ob.isFreed=Sj)(hx:tb.nm[x]? =KX at')(co:aK tb k ks o ox=R8)
  (h2:r.e o loc H=KX (.ref m,H1)) (h3:fu P H1 m x sv=KX H') (hsv:∀W',W'.ah s.heap.objs.size=KX (.ha m x)->W'.h.get? s.heap.objs.size=KX ob->bV S W' (.ha m x) (.hk m x) (.ref s.heap.objs.size) sv) (g:SG S T env ks loc H' .nx s W Q):
  Sm (md S) A (TN ox env) (λov aX=>Sm (md S) A (setAttr ov at'<|.ref s.heap.objs.size) (λu0=>Q .next) E aX) E {s with heap:=s.heap.push ob}:=
 have d:=w6 hs sx hf
 (vi h3).elim λc q=>q.elim λl q=>eg he rm rfl d.2.2.2 co h2 λqo aX aT b1 b2 b3 b4 b5 b6=>b6.nI
  λu0=>have k:=b4.seen _ _ _ rfl d.2.2.1 d.2.1
  GS (W:=aT.kB s.heap.objs.size<|.ha m x) st b1 (b5.kB k.2) hx q.2.2.2.1 q.1 q.2.1 q.2.2.1 (hsv _ Wd.yi k.1) λnU yK c1 c2 c3 c4 c5=>g.fin ⟨c1,c2.trans b2,c3.trans b3,(((d.1.go id λu0=>id).trans b4.toGo).trans<|Wd.xl k.2).trans c4⟩ (q.2.2.2.2▸c5) rfl
theorem Nn(st:bU S T P tb)(he:bH S T tb r n)(rm:aN A n)(hs:s.heap=W.h)(sx:St S T W env ks loc H){o:ME}{x:Sf}{nest:Sq}{m:Sf}(hx:tb.nm[x]? =KX at')(co:aK tb k ks o ox=R8)
  (h2:r.e o loc H=KX (.ref m,H1)) (h3:fu P H1 m x (UI nest (.hY [])<|.ml [])=KX H') (g:SG S T env ks loc H' .nx s W Q):Sm (md S) A (Ve (.Assign [.Attribute ox at' p1] (.List [] p2) p) env) Q E s:=
 UR (VO<|To ⟨Ui _,GV st he rm hs sx rfl hx co h2 h3 (λW' h1 h2=>Tb nest (.ml h1 h2 aA.nil)<|.hY h1 h2 rfl λk m hm=>au hm) g⟩) (dD rfl _ _ _)
theorem M4(st:bU S T P tb)(he:bH S T tb r n)(rm:aN A n)(hs:s.heap=W.h)(sx:St S T W env ks loc H){o:ME}{x:Sf}{dk:DK}{m:Sf}(hx:tb.nm[x]? =KX at')(co:aK tb k ks o ox=R8)
  (h2:r.e o loc H=KX (.ref m,H1)) (h3:fu P H1 m x (DK.casesOn dk (.mT []) (.mI [])<|.mS [])=KX H') (g:SG S T env ks loc H' .nx s W Q):Sm (md S) A (Ve (.Assign [.Attribute ox at' p1] (.Dict [] [] p2) p) env) Q E s:=
 have fs:=hs▸sx.ok.qh st
 UR (YY<|GV st he rm hs sx rfl hx co h2 h3 (λW' h1 h2=>DK.casesOn dk (.mT h1 h2 df.nil Vg fs) (.mI h1 h2 eQ.nil Vg fs)<|.mS h1 h2 eW.nil Vg) g) (dD rfl _ _ _)
end
section
variable{Q:WX->Sn->Prop}
inductive iH(S:bf)(W:Wd)(m x:Sf)(q:Se):Prop
 |mk (c:Sf) (d:SJ) (sl:Td (Sh Se)) (es:R5 Sk) (j:Sf) (e:Sk):m<W.N->W.h.get? (W.ρ m)=KX (eE (S.cls c) d sl)->W.ah (W.ρ m)=Sd->W.ah d=KX (.hd m)->W.h.get? d=KX (aI es j)->es.find? (·.key.isStr (S.nm x))=KX e->e.val=q->iH S W m x q
theorem iH.go{m x:Sf}(a:iH S W m x q)(g:W.Go W'):iH S W' m x q:=
 iH.casesOn a λc d sl es j e h1 h2 h3 h4 h5 h6 h7=>iS.casesOn (g.aL d m es j h5 h4) λmore j' g1 g2=>
  have er:=(g.dq m h1).symm
  ⟨c,d,sl,es++more,j',e,Si h1 g.N,er▸g.keep _ _ h2 h3,er▸g.free _ _ h2 h3,g2,g1,List.find?_append.trans (R6 (λo:Sh Sk=>o.or (more.find? (·.key.isStr (S.nm x)))) h6),h7⟩
inductive BQ(S:bf)(W:Wd)(m x c:Sf)(l:R5 (Sf×SV))(q:Se):Prop
 |mk (d:SJ) (sl:Td (Sh Se)) (es:R5 Sk) (j:Sf) (e:Sk):W.h.get? (W.ρ m)=KX (eE (S.cls c) d sl)->W.ah (W.ρ m)=Sd->W.ah d=KX (.hd m)->W.h.get? d=KX (aI es j)->bY S W m es l->es.find? (·.key.isStr (S.nm x))=KX e->e.val=q->BQ S W m x c l q
theorem iH.OH(hr:HR S W H){m x:Sf}{l:R5 (Sf×SV)}(a:iH S W m x q)(he:H[m]? =KX (.inst c l)):BQ S W m x c l q:=
 iH.casesOn a λc' d sl es j e h1 h2 h3 h4 h5 h6 h7=>hV.casesOn (hr.at_ m _ he) λd' sl' es' j' a1 b1 c1 d1 e1=>
  have ed:=R9<|R6 Obj.dict<|R9<|h2.symm.trans a1;have ee:es=es':=R6 Zm (Xh<|R6 X9<|R9<|h5.symm.trans (ed▸d1)).1
  ⟨d',sl',es',j',e,a1,b1,c1,d1,e1,ee▸h6,h7⟩
theorem iH.sl(st:bU S T P tb)(hr:HR S W H){m x:Sf}{l:R5 (Sf×SV)}(a:iH S W m x q)(he:H[m]? =KX (.inst c l))(hl:cL x l=KX sv):bV S W (.ha m x) (.hk m x) q sv:=
 BQ.casesOn (a.OH hr he) λu0 u1 u2 u3 e u4 u5 u6 u7 e1 h6 h7=>(bY.look st x e1).get hl λe' q1 q3=>h7▸(R6 (λe:Sk=>bV S W (.ha m x) (.hk m x) e.val sv)<|R9<|h6.symm.trans q1).mpr q3
theorem o7{m x:Sf}(h:cK P H m x=KX sv):∃c l,H[m]? =KX (.inst c l)/\cL x l=KX sv/\oN P c x=true:=
 HE.gN (P:=λo=>H[m]? =o->∃c l,H[m]? =KX (.inst c l)/\cL x l=KX sv/\oN P c x=R8) (λc l h e=>aR (λq h=>⟨c,l,e,h,q⟩) h) h (λh O=>au h) rfl
theorem get_own(st:bU S T P tb)(hs:s.heap=W.h)(ok:dU S T W)(hr:HR S W H){m x:Sf}{y:SS}{l:R5 (Sf×SV)}{Q:Se->Sn->Prop}(he:H[m]? =KX (.inst c l))(hl:cL x l=KX sv)(nm:oN P c x=R8)(hy:tb.nm[x]? =KX y)(hh:∀q,bV S W (.ha m x) (.hk m x) q sv->ZC q=R8)
  (g:∀q,iH S W m x q->bV S W (.ha m x) (.hk m x) q sv->∀tk,Q q {s with toks:=tk}):Sm (md S) A (aae (.ref<|W.ρ m) y R8) Q E s:=
 have ny:=st.nm x y hy
 (uP st nm hy).elim λu0 f=>hV.casesOn (hr.at_ m _ he) λd sl es j a1 b1 c1 d1 e1=>(bY.look st x e1).get hl λe q1 q3=>
  xt (hs▸ok.iq st) (j0 (hs▸a1)<|hs▸d1) f.2.2.1 f.2.2.2 f.2.1 (qC<|ny▸q1) (hh _ q3) (g _ ⟨c,d,sl,es,j,e,hr.len▸(List.getElem?_eq_some_iff.mp he).1,a1,b1,c1,d1,q1,rfl⟩ q3 _)
theorem sM{x y:Sf}{l:R5 (Sf×SV)}(ne:y≠x):cL x l=Sd->cL x (lg y sv l)=none:=by
 induction l with
 |nil=>exact λu0=>SI ne
 |cons p l ih=>
  intro h;have q:=oj h;exact if c:p.1=y then(R6 (cL x)<|Sv c).trans ((SI q.1).trans q.2) else(R6 (cL x)<|SI c).trans ((SI q.1).trans<|ih q.2)
noncomputable abbrev AL(m x:Sf)(ℓ:aF):Prop:=ℓ=.ha m x\/∃k,ℓ=.hk m x k
theorem Lk{m i:Sf}(e:aF.ha m i=.ha n j):i=j:=R6 (λl:aF=>aF.casesOn (motive:=λu0=>Sf) l 0 0 (λu0=>0) (λu0=>0) (λu0=>0) (λu0 i=>i) (λu0 u1 u2=>0) (λu0=>0) 0) e
theorem Mu{m i l:Sf}(e:aF.hk m i k=.hk n j l):i=j:=R6 (λl:aF=>aF.casesOn (motive:=λu0=>Sf) l 0 0 (λu0=>0) (λu0=>0) (λu0=>0) (λu0 u1=>0) (λu0 i u1=>i) (λu0=>0) 0) e
theorem AL.out{m x:Sf}:¬AL m x .out:=λh=>h.elim (λe=>nomatch e) λh=>h.elim λu0 e=>nomatch e
theorem AL.hd{m x i:Sf}:¬AL m x (.hd i):=λh=>h.elim (λe=>nomatch e) λh=>h.elim λu0 e=>nomatch e
theorem AL.tab{m x:Sf}:¬AL m x .tab:=λh=>h.elim (λe=>nomatch e) λh=>h.elim λu0 e=>nomatch e
theorem AL.ha{m x i:Sf}(ne:i≠x):¬AL m x (.ha n i):=λh=>h.elim (λe=>ne<|Lk e) λh=>h.elim λu0 e=>nomatch e
theorem AL.hk{m x i:Sf}(ne:i≠x):¬AL m x (.hk n i k):=λh=>h.elim (λe=>nomatch e) λh=>h.elim λu0 e=>ne<|Mu e
theorem AL.en{m x:Sf}(h:ℓ.ofEntry n):AL m x ℓ->m=n:=λa=>a.elim (λe=>(R6 (aF.ofEntry n) e).mp h) λa=>a.elim λu0 e=>(R6 (aF.ofEntry n) e).mp h
theorem bY.off{m x:Sf}(mv:W.Mv (AL m x) W'){l:R5 (Sf×SV)}:∀{es:R5 Sk},cL x l=Sd->bY S W m es l->bY S W' m es l:=by
 induction l with
 |nil=>exact λu0 r=>r.bN bY.nil
 |cons p l ih=>exact λhn r=>have q:=oj hn;r.aU λu0 u1 u2 z a b=>bY.cons z (a.mv mv AL.out (AL.ha q.1) λu0=>AL.hk q.1)<|ih q.2 b
theorem bY.put{m x:Sf}(mv:W.Mv (AL m x) W')(st:bU S T P tb){l:R5 (Sf×SV)}:∀{es:R5 Sk} {e:Sk},bY S W m es l->es.find? (·.key.isStr (S.nm x))=KX e->bV S W' (.ha m x) (.hk m x) e.val sv->
  bY S W' m es (lg x sv l):=by
 induction l with
 |nil=>exact fun{_ e} r h _=>r.bN (λh=>au h) h
 |cons p l ih=>
  intro es e r h hq;refine r.aU (λt v es z a b h=> ?_) h;refine if c:p.1=x then ?_ else ?_
  ·have e0:(⟨Tw S.w.params<|S.nm p.1,.str (S.nm p.1) t,v⟩::es).find? (·.key.isStr (S.nm x))=KX ⟨Tw S.w.params<|S.nm p.1,.str (S.nm p.1) t,v⟩:=Zq<|(pd st p.1 x t).trans<|Sz c
   have e1:v=e.val:=R6 DictEntry.val<|R9<|e0.symm.trans h;refine(R6 (bY S W' m _)<|Sv c).mpr<|bY.cons z ?_<|bY.off mv (c▸z) b;exact c.symm▸e1▸hq
  ·have q:(⟨Tw S.w.params<|S.nm p.1,.str (S.nm p.1) t,v⟩::es).find? (·.key.isStr (S.nm x))=es.find? (·.key.isStr (S.nm x)):=Zr<|TF _▸(pd st p.1 x t).trans (Un c)
   exact(R6 (bY S W' m _)<|SI c).mpr<|bY.cons (sM (Up c) z) (a.mv mv AL.out (AL.ha c) λu0=>AL.hk c)<|ih b (q.symm.trans h) hq
theorem HR.put(st:bU S T P tb)(hr:HR S W H){m x:Sf}{l:R5 (Sf×SV)}(mv:W.Mv (AL m x) W')(he:H[m]? =KX (.inst c l))(a:iH S W m x q)(hq:bV S W' (.ha m x) (.hk m x) q sv):HR S W' (H.set m<|.inst c<|lg x sv l):=
 ⟨(UC ..).trans<|hr.len.trans mv.N.symm,λm' e' he'=>if q':m'=m then by
   subst q';exact BQ.casesOn (a.OH hr he) λd sl es j e a1 b1 c1 d1 e1 h6 h7=>R9 ((T8 (List.getElem?_eq_some_iff.mp he).1).symm.trans he')▸
    (hV.mk d sl es j (mv.dq▸mv.tK a1 b1) (mv.dq▸(mv.ah _ _ a1).trans b1) ((mv.ah _ _ d1).trans c1) (mv.mU d1 c1 AL.hd)<|bY.put mv st e1 h6<|h7▸hq)
  else
   have h:=(T3<|Up q').symm.trans he'
   (hr.at_ m' e' h).kp (mv.lA AL.out) (hr.len▸(List.getElem?_eq_some_iff.mp h).1) λu0 h e=>q' (AL.en h e).symm⟩
theorem Ca{m x:Sf}(h:dR H m x sv=KX H'):∃c l,H[m]? =KX (.inst c l)/\H'=H.set m (.inst c<|lg x sv l):=
 HE.gN (P:=λo=>H[m]? =o->∃c l,H[m]? =KX (.inst c l)/\H'=H.set m (.inst c<|lg x sv l)) (λc l h e=>aR (λu0 h=>⟨c,l,e,(R9 h).symm⟩) h) h (λh O=>au h) rfl
theorem oh{m x:Sf}(h:cK P H m x=KX sv)(h':dR H m x sv'=KX H'):∃c l,H[m]? =KX (.inst c l)/\cL x l=KX sv/\oN P c x=R8/\H'=H.set m (.inst c<|lg x sv' l):=
 (o7 h).elim λc q=>q.elim λl q=>(Ca h').elim λc' q'=>q'.elim λl' q'=>
  have e:=R9<|q.1.symm.trans q'.1;have e1:c=c':=R6 (λe:HE=>HE.casesOn (motive:=λu0=>Sf) e (λc O=>c) (λu0=>0) 0) e;have e2:l=l':=R6 (λe:HE=>HE.casesOn (motive:=λu0=>R5<|Sf×SV) e (λu0 l=>l) (λu0=> []) []) e
  ⟨c,l,q.1,q.2.1,q.2.2,e1▸e2▸q'.2⟩
theorem St.put(st:bU S T P tb)(sx:St S T W env ks loc H){m x:Sf}{l:R5 (Sf×SV)}(la:W.ah a=KX ℓ)(hℓ:AL m x ℓ)(sb:SO a W.h h')(he:H[m]? =KX (.inst c l))(at':iH S W m x q)(hq:bV S (W.grow h') (.ha m x) (.hk m x) q sv):
  W.Go (W.grow h')/\St S T (W.grow h') env ks loc (H.set m<|.inst c<|lg x sv l):=
 have mv:=(Wd.fG la sb).weaken λℓ' e=>e▸hℓ
 ⟨mv.go AL.out λu0=>AL.hd,sx.ok.mv mv AL.out AL.tab,sx.hr.put st mv he at' hq,sx.fr.mv mv AL.out λℓ' h e=>e.elim (λe=>nomatch (R6 aF.bC e).symm.trans h) λe=>e.elim λu0 e=>nomatch (R6 aF.bC e).symm.trans h⟩
end
section
variable{Q:WX->Sn->Prop}
theorem bV.hand(st:bU S T P tb)(r:bV S W ℓ ℓk q sv):ZC q=true:=by
 induction sv using SV.casesOn with
 |un=>exact r.elim
 |fr v=>exact RV.handed st r
 |ml l=>exact r.wO λu0 u1 u2 u3 u4 u5=>rfl
 |hY l=>exact r.By λu0 u1 u2 u3 u4 u5=>rfl
 |mT l=>exact r.yC λu0 u1 u2 u3 u4 u5 u6 u7=>rfl
 |mI l=>exact r.zC λu0 u1 u2 u3 u4 u5 u6 u7=>rfl
 |mS l=>exact r.Mr λu0 u1 u2 u3 u4 u5 u6=>rfl
theorem wc(st:bU S T P tb)(he:bH S T tb r n)(rm:aN A n)(hs:s.heap=W.h)(sx:St S T W env ks loc H){a:ME}{o:SE}{m x:Sf}{y:SS}{Q:Se->Sn->Prop}(bo:baseOk o=R8)(hy:tb.nm[x]? =KX y)(ca:aK tb k ks a o=R8)
  (h1:r.e a loc H=KX (.ref m,H')) (h:cK P H' m x=KX sv)
  (g:∀q ai aj,ai.heap=aj.h->ai.gens=s.gens->ai.os=s.os->W.Fk aj->St S T aj env ks loc H'->iH S aj m x q->bV S aj (.ha m x) (.hk m x) q sv->Q q ai):Sm (md S) A (TN (.Attribute o y p) env) Q E s:=by refine(o7 h).elim λc e=>e.elim λl e=> ?_;rw[Yp,qX _ _ _ bo];refine R7<|eg he rm hs sx ca h1 λq ai aj a1 a2 a3 a4 a5 a6=>R7<|TU ?_;refine a6.nI λu0=> ?_;exact R7<|SY<|get_own st a1 a5.ok a5.hr e.1 e.2.1 e.2.2 hy (λq r=>r.hand st) λq at' rq tk=>R7<|XR<|Sg<|g q {ai with toks:=tk} aj a1 a2 a3 a4 a5 at' rq
theorem MN(st:bU S T P tb)(he:bH S T tb r n)(rm:aN A n)(hs:s.heap=W.h)(sx:St S T W env ks loc H){a o:ME}{x m:Sf}{v:AV}{l0:R5 AV}(hx:tb.nm[x]? =KX at')(bo:baseOk ox=R8)(hline:(ap.endLine==pos.line)=R8)(oy:du y=R8)
  (co:aK tb k ks o ox=R8) (ca:aK tb k ks a y=R8) (h1:r.e o loc H=KX (.ref m,H1)) (hm:cK P H1 m x=KX (.ml l0)) (h2:r.e a loc H1=KX (v,H2)) (hl:cK P H2 m x=KX (.ml l)) (z:aw l.length=R8) (h3:dR H2 m x (.ml<|l++[v])=KX H')
  (g:SG S T env ks loc H' .nx s W Q):Sm (md S) A (Ve (.Expr (.Call (.Attribute (.Attribute ox at' p) ("append":SS) ap) [y] [] pos) p') env) Q E s:=by have cl:=pq oy ca;refine(oh hl h3).elim λc d=>d.elim λll d=> ?_;refine UX (gK rfl hline (gP cl) (by decide:1<29) (wc st he rm hs sx bo hx co h1 hm λq ai aj a1 a2 a3 a4 a5 at1 rq pl=>rq.wO (λad us j r1 r2 r3 at1=> ?_) at1)) sx.fr.inter<|dD rfl _ _ _;have r2':=a1▸r2;refine V8 ⟨_,r2',rfl⟩ Vw Vo Vn (λb e=>Vh e▸⟨_,r2',rfl⟩) ?_;refine callArgs (nQ he) ft rm a1 a5 cl (aq h2<|aq rfl rfl) λws aX aT b1 b2 b3 b4 b5 b6=>⟨trivial,?_⟩;refine b6.aU λq us' rq b=>b.bN ?_;have at2:=at1.go b4.toGo;refine(at2.sl st b5.hr d.1 d.2.1).wO (P:=λqa=>iH S aT m x qa->qa=.ref ad->Sm (md S) A (Wv (.builtin "list.append") [qa,q]) _ E aX) (λad us j r1 r2 r3 at2 O=> ?_) at2 rfl;refine kU (b1▸r2) (r3.length▸Sw (cJ z) (by decide)) λh' j' g1 sb=> ?_;have sb:=(R6 (λq=>SO ad q h') b1).mp sb;have mv:=Wd.fG r1 sb;have le:=mv.le λe=>nomatch e;have w:=b5.put st r1 (.inl rfl) sb d.1 at2<|.ml ((mv.ah _ _ r2).trans r1) g1<|(aA.cons (rq.mono le) aA.nil).append<|r3.mono le;exact((g.after a2 a3 a4.toGo).after b2 b3 b4.toGo).fin ⟨rfl,rfl,rfl,w.1⟩ (d.2.2.2▸w.2) rfl
end
section
variable{Q:WX->Sn->Prop}
inductive sf(kv v:AV)(sv sv':SV):Prop
 |T (l:R5 (R5 AV×AV)) (key:R5 AV):sv=.mT l->kv=.tup key->AV.key 4 (.tup key)=R8->aw l.length=R8->sv'=.mT (hG key v l)->sf kv v sv sv'
 |I (l:R5 (SK×AV)) (key:SK):sv=.mI l->kv=.int key->aw l.length=R8->sv'=.mI (iF key v l)->sf kv v sv sv'
 |S (l:R5 (R5 Sf×AV)) (key:R5 Sf):sv=.mS l->kv=.str key->aw l.length=R8->sv'=.mS (ux key v l)->sf kv v sv sv'
theorem NS{qa qk:Se}{kv v:AV}{Q:TZ->Sn->Prop}(rm:aN A n)(hs:s.heap=W.h)(hℓ:ℓ≠ .out)(sl:bV S W ℓ ℓk qa sv)(rk:RV S W qk kv)(rv:RV S W q v)(hp:sf kv v sv sv')
  (fin:∀(ad:SJ) (ew:Sn),qa=.ref ad->W.ah ad=KX ℓ->SO ad W.h ew.heap->ew.gens=s.gens->ew.os=s.os->bV S (W.grow ew.heap) ℓ ℓk qa sv'->Q () ew):Sm (md S) A (X4 qa qk q) Q E s:=by
 refine sf.casesOn hp (λl key e1 e2 hk z e3=> ?_) (λl key e1 e2 z e3=> ?_) λl key e1 e2 z e3=> ?_
 ·subst e1 e2 e3
  refine sl.yC (λad es j r1 r2 r3 r4 r5 fin=> ?_) fin;exact zT hs rm.nH rk hk rv r1 hℓ r2 r3 r4 z λs4 es' n' sb e2 e3 mv e5 e6 e7=>fin ad s4 rfl r1 sb e2 e3 (.mT ((mv.ah _ _ r2).trans r1) e5 e6 e7 r5)
 ·subst e1 e2 e3
  refine sl.zC (λad es j r1 r2 r3 r4 r5 fin=> ?_) fin;exact rk.eS λt=>IX hs rv r1 hℓ r2 r3 r4 z λs4 es' n' sb e2 e3 mv e5 e6 e7=>fin ad s4 rfl r1 sb e2 e3 (.mI ((mv.ah _ _ r2).trans r1) e5 e6 e7 r5)
 ·subst e1 e2 e3
  refine sl.Mr (λad es j r1 r2 r3 r4 fin=> ?_) fin;exact rk.nK λx t e=>JV hs rv r1 hℓ r2 r3 r4 z λs4 es' n' sb e2 e3 mv e5 e6 e7=>fin ad s4 rfl r1 sb e2 e3 (e▸(.mS ((mv.ah _ _ r2).trans r1) e5 e6 e7))
theorem Np(st:bU S T P tb)(he:bH S T tb r n)(rm:aN A n)(hs:s.heap=W.h)(sx:St S T W env ks loc H){a o:ME}{x m:Sf}{v kv:AV}{H3:Hp}(hx:tb.nm[x]? =KX at')(bo:baseOk ox=R8)(nc:dP y=Sj)
  (co:aK tb k ks o ox=R8) (ca:aK tb k ks a y=R8) (ck:aK tb k ks kk z=R8) (h1:r.e a loc H=KX (v,H1)) (h2:r.e o loc H1=KX (.ref m,H2)) (hm:cK P H2 m x=KX sv0) (h3:r.e kk loc H2=KX (kv,H3)) (hl:cK P H3 m x=KX sv) (hp:sf kv v sv sv')
  (h4:dR H3 m x sv'=KX H') (g:SG S T env ks loc H' .nx s W Q):Sm (md S) A (Ve (.Assign [.Subscript (.Attribute ox at' p) z p1] y p') env) Q E s:=
 (oh hl h4).elim λc d=>d.elim λll d=>V7 (eg he rm hs sx ca h1 λq ai aj a1 a2 a3 a4 a5 a6=>wc st he rm a1 a5 bo hx co h2 hm λqa aX aT b1 b2 b3 b4 b5 at1 rq=>
  eg he rm b1 b5 ck h3 λqk nU yK c1 c2 c3 c4 c5 c6=>have at2:=at1.go c4.toGo
   NS (ℓ:=.ha m x) rm c1 (λe=>nomatch e) (at2.sl st c5.hr d.1 d.2.1) c6 ((a6.mono b4.toLe).mono c4.toLe) hp λad ew e la sb e2 e3 hq=>have w:=c5.put st la (.inl rfl) sb d.1 at2 hq
    (((g.after a2 a3 a4.toGo).after b2 b3 b4.toGo).after c2 c3 c4.toGo).fin ⟨rfl,e2,e3,w.1⟩ (d.2.2.2▸w.2) rfl)<|dD nc _ _ _
end
section
variable{Q:WX->Sn->Prop}
noncomputable def isAt(m x:Sf)(ℓ:aF):Bool:=aF.casesOn ℓ Sj Sj (λu0=>Sj) (λu0=>Sj) (λu0=>Sj) (λa b=>a==m&&b==x) (λa b O=>a==m&&b==x) (λu0=>Sj) Sj
theorem Df{a:Sq}(h:b=Sj):(a&&b)=false:=(R6 (a&&·) h).trans<|Xr a
theorem JO{m x:Sf}{n':Sf}(h:ℓ.ofEntry n')(q:n'≠m):isAt m x ℓ=false:=by
 induction ℓ using aF.casesOn<;>first|rfl|exact h.elim|exact R6 (·&&_)<|beq_eq_false_iff_ne.mpr<|h▸q
theorem vU{m x:Sf}:(m==m&&x==x)=true:=Bool.and_eq_true_iff.mpr ⟨U1 _,U1 _⟩
theorem bY.gH{m x:Sf}{v:AV}(hf:sv.frozen=KX v){l:R5 (Sf×SV)}:∀{es:R5 Sk},bY S W m es l->cL x l=KX sv->bY S (W.eV<|isAt m x) m es (lg x (.fr v) l):=by
 have kp:=W.mD<|isAt m x;have off:∀{i:Sf},i≠x->isAt m x (.ha m i)=Sj/\∀k,isAt m x (.hk m i k)=false:=λc=>⟨Df<|beq_eq_false_iff_ne.mpr c,λu0=>Df<|beq_eq_false_iff_ne.mpr c⟩;have rest:∀{l:R5 (Sf×SV)} {es:R5 Sk},cL x l=Sd->bY S W m es l->bY S (W.eV<|isAt m x) m es l:=by
  intro l
  induction l with
  |nil=>exact fun{es} _ r=>r.bN bY.nil
  |cons p l ih=>exact fun{es} hn r=>have q:=oj hn;r.aU λu0 u1 u2 z a b=>bY.cons z (a.kp kp (off q.1).1 (off q.1).2)<|ih q.2 b
 induction l with
 |nil=>exact λu0 h=>au h
 |cons p l ih=>
  refine fun{es} r h=>r.aU λt u es z a b=> ?_;refine if c:p.1=x then(R6 (bY S (W.eV<|isAt m x) m _)<|Sv c).mpr (bY.cons z ?_<|rest (c▸z) b) else(R6 (bY S (W.eV<|isAt m x) m _)<|SI c).mpr (bY.cons (sM (Up c) z) (a.kp kp (off c).1 (off c).2)<|ih b<|(SI c).symm.trans h)
  have e:=R9<|(Sv c).symm.trans h;exact bV.fr<|(e▸a).frozen hf (c▸vU) λk=>c▸vU
theorem K2{m x:Sf}{l:R5 (Sf×SV)}{v:AV}(sx:St S T W env ks loc H)(he:H[m]? =KX (.inst c l))(hl:cL x l=KX sv)(hf:sv.frozen=KX v):
  W.Go (W.eV<|isAt m x)/\St S T (W.eV<|isAt m x) env ks loc (H.set m<|.inst c<|lg x (.fr v) l):=
 have kp:=W.mD (isAt m x)
 ⟨W.xk _ rfl λu0=>rfl,sx.ok.kp kp rfl,⟨(UC ..).trans sx.hr.len,λm' e' he'=>if q:m'=m then by
   subst q;exact hV.casesOn (sx.hr.at_ m' _ he) λd sl es j a1 b1 c1 d1 e1=>have q:=kp.lk _ _ (.hd m') rfl d1 c1
    R9 ((T8 (List.getElem?_eq_some_iff.mp he).1).symm.trans he')▸(hV.mk d sl es j a1 (Wd.oR b1) q.2 q.1<|bY.gH hf e1 hl)
  else
   have h:=(T3<|Up q).symm.trans he'
   (sx.hr.at_ m' e' h).kp kp (sx.hr.len▸(List.getElem?_eq_some_iff.mp h).1) λℓ h=>JO h q⟩,sx.fr.rJ kp rfl λℓ h=>by induction ℓ using aF.casesOn<;>first|rfl|exact nomatch h⟩
theorem PZ(hv:∀i loc H v H1,r.e (.v i) loc H=KX (v,H1)->loc[i]? =KX (.fr v)/\H1=H):Mt S T tb (step P r):=by
 intro m W env ks loc loc' H H' fl hm sx h;refine hm.elim (λq=>q.elim λi e=> ?_) λq=>q.elim λi q=>q.elim λx e=> ?_
 ·subst e
  exact bG (λsv hl h=>bI (λv hf h=>have b:=K6 sx hl hf;⟨W.eV<|aF.nR i,rfl,b.1,(R6 (λp:Fl×Loc×Hp=>St S T (W.eV<|aF.nR i) env ks p.2.1 p.2.2) h).mp b.2,R6 VJ h.symm⟩) h) h
 ·have e:=e.1
  subst e;refine aC (λw H1 h1 h=>AV.gS (λn h=>bG (λsv hs h=>bG (λv hf h=>bI (λH2 h2 h=>(oh hs h2).elim λc d=>d.elim λl d=> ?_) h) h) h) h λh=>au h) h;have b:=K2 ((hv _ _ _ _ _ h1).2▸sx) d.1 d.2.1 hf;exact ⟨W.eV<|isAt n x,rfl,b.1,(R6 (λp:Fl×Loc×Hp=>St S T (W.eV<|isAt n x) env ks p.2.1 p.2.2) h).mp<|d.2.2.2▸b.2,R6 VJ h.symm⟩
end
section
variable{Q:WX->Sn->Prop}
section
variable{L:aF->Prop}{vs:R5 Se}{l:R5 (R5 AV)}{i:Sf}{b:SJ}{m:R5 AV}
theorem pM.kp{vs':R5 Se}(mv:W.Kp L W')(h3:L (ℓk i))(e:∀v,vs[i]? =KX v->vs'[i]? =KX v)(r:pM S W ℓk vs i m):pM S W' ℓk vs' i m:=
 pM.casesOn r λb ws j e1 e2 e3 e4=>have q:=mv.lk _ _ _ h3 e3 e2;⟨b,ws,j,e _ e1,q.2,q.1,e4.bE mv.toFe⟩
theorem pN.snoc(r:pN S W ℓk l vs)(mv:W.Kp L W')(h3:∀k,L<|ℓk k)(lb:W'.ah b=KX (ℓk l.length))(eb:W'.h.get? b=KX (aE ws j))(rm:aA S W' ws m):pN S W' ℓk (l++[m]) (vs++[.ref b]) where
 len:=List.length_append.trans ((R6 (·+1) r.len).trans (Sy (bs:=[m])).symm)
 at_:=λk mm h=>if c:k<l.length then(r.at_ k mm<|(TV c).symm.trans h).kp mv (h3 k) λu0 e=>(TV<|r.len▸c).trans e
  else by have lt:=(List.getElem?_eq_some_iff.mp h).1;have e:=U7 (Uj ((R6 (k<·)<|Sy).mp lt))<|Nat.not_lt.mp c;subst e;exact ⟨b,ws,j,r.len▸List.getElem?_concat_length,lb,eb,R9 (List.getElem?_concat_length.symm.trans h)▸rm⟩
theorem pN.set(r:pN S W ℓk l vs)(mv:W.Kp L W')(h3:∀k,k≠i->L (ℓk k))(hi:vs[i]? =KX (.ref b))(hlt:i<l.length)(lb:W'.ah b=KX (ℓk i))(eb:W'.h.get? b=KX (aE ws j))(rm:aA S W' ws m):pN S W' ℓk (l.set i m) vs where
 len:=r.len.trans (UC ..).symm
 at_:=λk mm h=>if c:k=i then by subst c;exact ⟨b,ws,j,hi,lb,eb,R9 ((T8 hlt).symm.trans h)▸rm⟩
  else(r.at_ k mm<|(T3<|Up c).symm.trans h).kp mv (h3 k c) λu0=>id
end
theorem Kt(st:bU S T P tb)(he:bH S T tb r n)(rm:aN A n)(hs:s.heap=W.h)(sx:St S T W env ks loc H){o:ME}{x m:Sf}{l:R5 (R5 AV)}(hx:tb.nm[x]? =KX at')(bo:baseOk ox=R8)(hline:(ap.endLine==pos.line)=R8)
  (co:aK tb k ks o ox=R8) (h1:r.e o loc H=KX (.ref m,H1)) (hm:cK P H1 m x=KX (.hY l)) (z:aw l.length=R8) (h3:dR H1 m x (.hY<|l++[[]])=KX H')
  (g:SG S T env ks loc H' .nx s W Q):Sm (md S) A (Ve (.Expr (.Call (.Attribute (.Attribute ox at' p) ("append":SS) ap) [.List [] p2] [] pos) p') env) Q E s:=by refine(oh hm h3).elim λc d=>d.elim λll d=> ?_;refine UX (gK rfl hline rfl (by decide:1<29) (wc st he rm hs sx bo hx co h1 hm λq ai aj a1 a2 a3 a4 a5 at1 rq pl=>rq.By (λad us j r1 r2 r3 at1=> ?_) at1)) sx.fr.inter<|dD rfl _ _ _;have r2':=a1▸r2;refine V8 ⟨_,r2',rfl⟩ Vw Vo Vn (λb e=>Vh e▸⟨_,r2',rfl⟩) ?_;refine(ft).run rfl (UB<|Tc<|VO<|To ⟨Ui _,To ⟨trivial,?_⟩⟩);have w:=w6 (ℓ:=.hk m x l.length) (o:=aE [] 0) a1 a5 rfl;have at2:=at1.go<|w.1.go id λu0=>id;have k1:=w.1.keep _ _ r2 λu0 u1=>id;have k2:=(w.1.ah _ _ r2).trans r1;refine kU k1 (r3.len▸Sw (cJ z) (by decide)) λh' j' q1 sb=> ?_;have mv2:=Wd.fG k2 sb;have n1:¬(aF.out=.ha m x):=λe=>nomatch e;have n2:∀k,¬(aF.hk m x k=.ha m x):=λu0 e=>nomatch e;have kp:=(w.1.kp id λu0 u1=>id).trans<|mv2.lA n1;have v:=w.2.2.2.put st k2 (.inl rfl) sb d.1 at2<|(λq:pN S _ (.hk m x) (l++[[]]) (us++[.ref ai.heap.objs.size])=> .hY ((mv2.ah _ _ k1).trans k2) q1 q.len q.at_)<|r3.snoc kp n2 ((mv2.ah _ _ w.2.2.1).trans w.2.1) (mv2.mU w.2.2.1 w.2.1<|n2 _) aA.nil;exact(g.after a2 a3 a4.toGo).fin ⟨rfl,rfl,rfl,(w.1.go id λu0=>id).trans v.1⟩ (d.2.2.2▸v.2) rfl
end
section
variable{Q:WX->Sn->Prop}
structure lJ(r:Rec):Prop where
 v:∀i loc H v H1,r.e (.v i) loc H=KX (v,H1)->loc[i]? =KX (.fr v)/\H1=H
 c:∀c loc H v H1,r.e (.c c) loc H=KX (v,H1)->v=c/\H1=H
theorem lJ.step(r:Rec):lJ (step P r):=
 ⟨λi loc H v H1 h=>jJ (λu e h=>have q:=R9 h;⟨e.trans<|R6 (λp:AV×Hp=>KX<|SV.fr p.1) q,(R6 Xn q).symm⟩) h,λc loc H v H1 h=>have q:=R9 h;⟨(R6 VJ q).symm,(R6 Xn q).symm⟩⟩
theorem lJ.same(pr:lJ r)(hp:mZ kk=R8){v:AV}(h:r.e kk loc H=KX (v,H1)):H1=H:=by
 induction kk using ME.casesOn<;>first|exact bc hp|exact(pr.c _ _ _ _ _ h).2|exact(pr.v _ _ _ _ _ h).2
theorem Lb(pr:lJ r)(hs:s.heap=W.h)(sx:St S T W env ks loc H){v:AV}{Q:Se->Sn->Prop}(hp:mZ kk=R8)(ck:aK tb k ks kk y=R8)(h:r.e kk loc H=KX (v,H1))(g:∀q,RV S W q v->fq s (Q q)):
  Sm (md S) A (TN y env) Q E s:=by
 induction k using SW with
 |zero=>exact bc ck
 |succ k=>
 revert ck
 induction kk using ME.casesOn<;>first|exact bc hp|skip
 ·exact k6 λu0 u1 u2 ck=>ud ((pr.c _ _ _ _ _ h).1▸ck) g
 ·exact aZ λx p ck=>jr (λu0 u1 u2 hd u3=>TK (eR hs sx.fr ck (pr.v _ _ _ _ _ h).1 λq r=>g q r s rfl rfl rfl) hd) ck
theorem H9{m i l:Sf}(e:aF.hk m i k=.hk n j l):k=l:=R6 (λl:aF=>aF.casesOn (motive:=λu0=>Sf) l 0 0 (λu0=>0) (λu0=>0) (λu0=>0) (λu0 u1=>0) (λu0 u1 k=>k) (λu0=>0) 0) e
theorem Lx(st:bU S T P tb)(pr:lJ r)(he:bH S T tb r n)(rm:aN A n)(hs:s.heap=W.h)(sx:St S T W env ks loc H){o a:ME}{x m:Sf}{i:SK}{v:AV}{l:R5 (R5 AV)}{mm:R5 AV}(hx:tb.nm[x]? =KX at')(bo:baseOk ox=R8)(hline:(ap.endLine==pos.line)=R8)(oz:du z=R8)(oy:du y=R8)
  (co:aK tb k ks o ox=R8) (ck:aK tb k ks kk z=R8) (pe:mZ a=R8) (ca:aK tb k ks a y=R8) (h1:r.e o loc H=KX (.ref m,H1)) (h2:r.e kk loc H1=KX (.int i,H1)) (h3:r.e a loc H1=KX (v,H1)) (hm:cK P H1 m x=KX (.hY l)) (hi:0<=i/\i<big) (hl:l[i.toNat]? =KX mm) (zz:aw mm.length=R8)
  (h4:dR H1 m x (.hY<|l.set i.toNat<|mm++[v])=KX H') (g:SG S T env ks loc H' .nx s W Q):Sm (md S) A (Ve (.Expr (.Call (.Attribute (.Subscript (.Attribute ox at' p) z p1) ("append":SS) ap) [y] [] pos) p') env) Q E s:=by
 have cl:=pq oy ca;refine(oh hm h4).elim λc d=>d.elim λll d=> ?_;refine UX (gK rfl hline (gP cl) (by decide:1<29) ?_) sx.fr.inter<|dD rfl _ _ _;refine Yq<|wc st he rm hs sx bo hx co h1 hm λq ai aj a1 a2 a3 a4 a5 at1 rq=> ?_;refine eg he rm a1 a5 ck h2 λqi aX aT b1 b2 b3 b4 b5 b6=> ?_;refine b6.eS λt=> ?_;have at2:=at1.go b4.toGo;have sl:=at2.sl st b5.hr d.1 d.2.1
 revert at2;refine sl.By λad us j r1 r2 r3 at2=> ?_;refine pM.casesOn (r3.at_ _ _ hl) λb ws jj e1 e2 e3 e4=> ?_;have r2':=b1▸r2;refine YF ⟨_,r2',rfl⟩ slot_list_getitem.lookup (Yl (d7 r2') hi.1 (Vp hi.2 (by decide)) (List.getElem?_toArray.trans e1) λpl=> ?_)<|nZ _ _ oz;have e3':=b1▸e3;refine V8 ⟨_,e3',rfl⟩ Vw Vo Vn (λb e=>Vh e▸⟨_,e3',rfl⟩) ?_;refine(ft).run (gP cl) ?_;have key:=Tc (A:=A) (E:=E) (pos:=pos) (Q:=λus s'=>Y2/\Sm (md S) A (Wv (.builtin "list.append")<|[.ref b]++us) (λu0=>Q .next) E s')
  (Lb pr b1 b5 pe ca h3 λq rq s' f1 f2 f3=>To ⟨trivial,?_⟩) (eI oy)
 ·rw[eI oy] at key⊢
  exact UB key
 ·refine kU (f1.symm▸e3') (e4.length▸Sw (cJ zz) (by decide)) λh' j' g1 sb=> ?_
  have sb:=(R6 (λq=>SO b q h')<|f1.trans b1).mp sb;have mv:=Wd.fG e2 sb;have n1:¬(aF.out=.hk m x i.toNat):=λe=>nomatch e;have le:=mv.le n1;have w:=b5.put st e2 (.inr ⟨_,rfl⟩) sb d.1 at2 ((λq:pN S _ (.hk m x) (l.set i.toNat<|mm++[v]) us=> .hY ((mv.ah _ _ r2).trans r1) (mv.mU r2 r1 λe=>nomatch e) q.len q.at_)
   (r3.set (mv.lA n1) (λk c e=>c<|H9 e) e1 (List.getElem?_eq_some_iff.mp hl).1 ((mv.ah _ _ e3).trans e2) g1<|(aA.cons (rq.mono le) aA.nil).append<|e4.mono le));exact((g.after a2 a3 a4.toGo).after b2 b3 b4.toGo).fin ⟨rfl,f2,f3,w.1⟩ (d.2.2.2▸w.2) rfl
end
section
noncomputable def mi(env:Xz)(p:SS×Tq)(acc:R5 (SS×SJ)):R5 (SS×SJ):=if(p.2==Vl)=R8 then Sl (env.cells.lookup p.1) acc λc=>(p.1,c)::acc else acc
def iw(env:Xz)(names:R5 (SS×Tq)):R5 (SS×SJ)->R5 (SS×SJ):=S8 id (λp O ih acc=>ih<|mi env p acc) names
section
variable{names:R5 (SS×Tq)}{x:SS}{c:SJ}
theorem xW(hc:env.cells.lookup x=KX c){acc:R5 (SS×SJ)}:mi env (x,.free) acc=(x,c)::acc:=
 R6 (λo:Sh SJ=>Sl (motive:=λu0=>R5<|SS×SJ) o acc λc=>(x,c)::acc) hc
theorem v9(hc:env.cells.lookup x=KX c){p:SS×Tq}{acc:R5 (SS×SJ)}(h:acc.lookup x=KX c):(mi env p acc).lookup x=KX c:=
 jR (P:=λl:R5 (SS×SJ)=>l.lookup x=KX c) (λu0=>Sl (motive:=λo=>env.cells.lookup p.1=o->(Sl (motive:=λu0=>R5<|SS×SJ) o acc λc=>(p.1,c)::acc).lookup x=KX c) (env.cells.lookup p.1) (λu0=>h)
  (λc' e=>if q:x=p.1 then(R6 (λy=>((p.1,c')::acc).lookup y) q).trans (gq.trans<|e.symm.trans (q▸hc)) else(gL q).trans h) rfl) λu0=>h
theorem A5(hc:env.cells.lookup x=KX c):∀{acc:R5 (SS×SJ)},(x,Vl)∈names\/acc.lookup x=KX c->(iw env names acc).lookup x=KX c:=by
 induction names with
 |nil=>exact λh=>h.elim (λh=>nomatch h) id
 |cons p r ih=>exact fun{acc} h=>h.elim (λh=>(List.mem_cons.mp h).elim (λe=>ih<|.inr<|(R6 (λp=>(mi env p acc).lookup x=KX c) e).mp<|(R6 (λl:R5 (SS×SJ)=>l.lookup x=KX c)<|xW hc).mpr gq) λh=>ih<|.inl h) λh=>ih<|.inr<|v9 hc h
theorem yd(h:(x,Vl)∈names)(hc:env.cells.lookup x=KX c):(iw env names []).lookup x=KX c:=A5 hc<|.inl h
theorem Fn{names:R5 (SS×Tq)}:∀(acc:R5 (SS×SJ)),(∀x,(x,Vl)∈names->∃c,env.cells.lookup x=KX c)->
   (forIn names acc λp r=>do
    if(p.2==Vl)=R8 then do
     let a←cellOf env p.1
     pure (UQ ((p.1,a)::r))
    else pure (UQ r):Sem (R5<|SS×SJ))=pure (iw env names acc):=by
 induction names with
 |nil=>exact λu0 u1=>rfl
 |cons p names ih=>
  intro acc hn;have ih':=λacc=>ih acc λy hy=>hn y<|Xo _ hy;rw[Xb]
  by_cases hk:(p.2==Vl)=R8
  ·refine(hn p.1<|eq_of_beq hk▸VB).elim λc hc=> ?_
   have e:mi env p acc=(p.1,c)::acc:=(Sv hk).trans<|R6 (λo:Sh SJ=>Sl (motive:=λu0=>R5<|SS×SJ) o acc λc=>(p.1,c)::acc) hc;have ec:cellOf env p.1=pure c:=by unfold cellOf;rw[hc]
   rw[Sv hk,ec,pure_bind,pure_bind];exact(ih' _).trans<|R6 (λl=>pure<|iw env names l) e.symm
  ·rw[SI hk,pure_bind]
   exact(ih' _).trans<|R6 (λl=>pure<|iw env names l) (SI hk).symm
theorem pS{scope:Xk}(h:∀x,(x,Vl)∈scope.names->∃c,env.cells.lookup x=KX c):ZD scope env=pure (iw env scope.names []):=(bind_pure _).trans<|Fn [] h
theorem AO{i:Sf}{k:Tq}(nd:(sc.names.map (·.1)).Nodup)(h:sc.names[i]? =KX (x,k)):
  (k≠ .free->(WC sc env).names.lookup x=KX k)/\(k=.free->(WC sc env).names.lookup x=KX .cell\/(WC sc env).names.lookup x=KX .free):=by
 let f:SS×Tq->SS×NameKind:=fun(n,k)=>if(k==.free&&env.scope.kind==.function&&env.kindOf n==KX .cell) then(n,.cell) else(n,k)
 have f1:∀p,(f p).1=p.1:=λp=>jR (P:=λq:SS×Tq=>q.1=p.1) (λu0=>rfl) λu0=>rfl;have e1:(sc.names.map f).map (·.1)=sc.names.map (·.1):=List.map_map.trans<|Wk λp O=>f1 p;have e2:=(S1 ..).trans<|R6 (Uo f) h;have lk:∀{k'},f (x,k)=(x,k')->(WC sc env).names.lookup x=KX k':=λe=>lookup_at (e1▸nd)<|e2.trans<|R6 KX e;refine ⟨λn=>lk<|SI λq=>n ?_,λn=>jR (P:=λq=>f (x,k)=q->(WC sc env).names.lookup x=KX .cell\/(WC sc env).names.lookup x=KX .free) (λu0 e=> .inl<|lk e) (λu0 e=> .inr<|n▸lk e) rfl⟩;exact eq_of_beq (Bool.and_eq_true_iff.mp (Bool.and_eq_true_iff.mp q).1).1
end
def Wd.hide(W:Wd):Wd:={W with ah:=λb=>di (W.ah b)}
theorem Wd.sq(W:Wd):W.Hid W.hide:=⟨λu0 u1 e=>e,λu0 u1 u2=>rfl,rfl,rfl⟩
def Wd.qE(W:Wd)(h:Tu)(C D:SJ)(d:Sf):Wd:={W with h:=h,ah:=λb=>if(W.h.get? b).isSome then di (W.ah b) else if b=C then KX .fl else if b=D then KX (.fs d) else Sd}
theorem Wd.BP{h:Tu}{d:Sf}(k:∀a o,W.h.get? a=KX o->h.get? a=KX o):W.Hid (W.qE h C D d):=
 ⟨k,λa o e=>Sv<|e▸rfl,rfl,rfl⟩
inductive iC(ks:R5 (SS×VK))(cap:R5 (Sh Sf))(i:Sf)(x:SS)(nk:Tq):Prop
 |own:cap[i]? =KX Sd->nk=.local\/nk=.globalImplicit->iC ks cap i x nk
 |out (j:Sf) (v:VK):cap[i]? =KX (KX j)->nk=.free->ks[j]? =KX (x,v)->v=.c\/v=.r->iC ks cap i x nk
theorem iC.succ{o:Sh Sf}{i:Sf}{x:SS}{nk:Tq}(c:iC ks cap i x nk):iC ks (o::cap) (i+1) x nk:=iC.casesOn c (λa b=> .own a b) λj v a b c d=> .out j v a b c d
theorem kI:∀{names:R5 (SS×Tq)} {i:Sf} {x:SS} {nk:Tq},gJ ks cap names=R8->names[i]? =KX (x,nk)->iC ks cap i x nk:=by
 induction cap with
 |nil=>exact fun{_ i x nk} c h=>ao (λu0 h=>au h) c h
 |cons o l ih=>
  refine fun{_ i x nk} c h=>az (λp r c h=> ?_) c h;have hd:∀{Q:SS×Tq->Prop},Q p->KX p=KX (x,nk)->Q (x,nk):=λq e=>R9 e▸q
  induction o using Sl with
  |none=>exact ae (λa b=>SW i (λe=> .own rfl (hd (Q:=λp=>p.2=.local\/p.2=.globalImplicit) ((Bool.or_eq_true_iff.mp a).imp Sa Sa) e)) (λu0 h=>(ih b h).succ) h) c
  |some j=>exact ae (λa b=>SW i (λe=>ae (λa1 a2=>da (P:=λo=>ks[j]? =o->iC ks (KX j::l) 0 x nk) (λq c eq=>ae (λc1 c2=> .out j q.2 rfl (hd (Q:=λp=>p.2=.free) (Sa a1) e) (eq.trans<|R6 (λy=>KX (y,q.2))<|(Sa c1).trans<|hd (Q:=λy=>p.1=y.1) rfl e) ((Bool.or_eq_true_iff.mp c2).imp Sa Sa)) c) a2 rfl) a) (λu0 h=>(ih b h).succ) h) c
theorem B3:∀{names:R5 (SS×Tq)},gJ ks cap names=R8->cap.length=names.length:=by
 induction cap with
 |nil=>exact λc=>ao (λu0=>rfl) c
 |cons o l ih=>exact λc=>az (P:=λnames:R5 (SS×Tq)=>l.length+1=names.length) (λp r c=>R6 (·+1)<|Sl (motive:=λo=>(Sl o ((decide (p.2=.local)||decide (p.2=.globalImplicit))&&gJ ks l r) λj=>decide (p.2=.free)&&eD (λq=>decide (q.1=p.1)&&(decide (q.2=.c)||decide (q.2=.r))) ks[j]? &&gJ ks l r)=R8->l.length=r.length) o (λc=>ih (jX c).2) (λj c=>ih (jX c).2) c) c
theorem pF:∀{loc':Loc},fX loc cap=KX loc'->loc'.length=cap.length/\∀i:Sf,(cap[i]? =KX Sd->loc'[i]? =KX SV.un)/\∀j:Sf,cap[i]? =KX (KX j)->∃v,loc[j]? =KX (SV.fr v)/\loc'[i]? =KX (SV.fr v):=by
 induction cap with
 |nil=>exact λh=>R9 h▸⟨rfl,λi=>⟨λq=>au q,λj q=>au q⟩⟩
 |cons o l ih=>
  intro loc' h
  induction o using Sl with
  |none=>exact bI (λr hr (e:SV.un::r=loc')=>e▸have q:=ih hr;⟨R6 (·+1) q.1,λi=>SW i ⟨λu0=>rfl,λj q=>au<|R9 q⟩ λi=>q.2 i⟩) h
  |some j=>exact kL (λsv hv h=>SV.qW (P:=λs=>loc[j]? =KX s->_) (λv h hv=>bI (λr hr e=>e▸have q:=ih hr;⟨R6 (·+1) q.1,λi=>SW i ⟨λq=>au (R9 q).symm,λj' q=>⟨v,R9 (R9 q)▸hv,rfl⟩⟩ λi=>q.2 i⟩) h) h (λh O=>au h) hv) h
theorem ES(names:R5 (SS×Tq)):(bJ names).length=names.length:=Sr ..
section
inductive B5(S:bf)(W:Wd)(env:Xz)(loc':Loc)(i:Sf)(x:SS):Prop
 |mk (c:SJ) (o:Xl) (v:Se) (a:AV):env.cells.lookup x=KX c->(W.ah c=KX .out\/∃j,W.ah c=KX (.fc j))->W.h.get? c=KX o->o.data=.cell (KX v)->RV S W v a->loc'[i]? =KX (.fr a)->B5 S W env loc' i x
theorem ym(F:FR S W env ks loc)(cc:gJ ks cap sc.names=R8)(hc:fX loc cap=KX loc'){i:Sf}{x:SS}(hi:sc.names[i]? =KX (x,.free)):B5 S W env loc' i x:=
 iC.casesOn (kI cc hi) (λu0 q=>q.elim (λq=>nomatch q) λq=>nomatch q) λj v e1 O e2 e3=>(((pF hc).2 i).2 j e1).elim λa e=>(F.lookup e2 e.1).2.elim λm q=>e3.elim
  (λev=>n8.casesOn ((R6 (iB S W env m j x<|.fr a) ev).mp q.2) (λu0 u1 u2 u3 u4 u5 z u6=>nomatch z) λc o w y c1 c2 c3 c4 c5 c6=> .mk c o w a c1 (.inr ⟨j,c2⟩) c3 c5 (SV.wi c4▸c6) e.2)
  λev=>rQ.casesOn ((R6 (iB S W env m j x<|.fr a) ev).mp q.2) (λz=>nomatch z) λc o w y c1 c2 c3 c4 c5 c6=> .mk c o w a c1 (.inl c2) c3 c5 (SV.wi c4▸c6) e.2
theorem sm(F:FR S W env ks loc)(cc:gJ ks cap sc.names=R8)(hc:fX loc cap=KX loc'):ZD sc env=pure (iw env sc.names []):=
 pS λu0 hx=>(List.mem_iff_getElem?.mp hx).elim λu0 hi=>B5.casesOn (ym F cc hc hi) λc O u1 u2 h u3 u4 u5 u6 u7=>⟨c,h⟩
theorem B1(hs:s.heap=W.h)(sx:St S T W env ks loc H){RR:Se->SJ->ZG->Sn->Prop}(cc:gJ ks cap sc.names=R8)(hc:fX loc cap=KX loc')(ok:nM sc=R8)
  (g:∀ew C D iK,ew.heap=iK.h->ew.gens=s.gens->ew.os=s.os->W.Hid iK->W.h.get? D=Sd->W.h.get? C=Sd->C≠D->iK.ah D=KX (jy<|bJ sc.names)->iK.h.get? D=KX (aE [] 0)->iK.ah C=KX .fl->(∃m,iK.h.Ns C m)->
   St S T iK (compEnvC sc (iw env sc.names []) C env) (bJ sc.names) loc' H->Um (md S) A (.compStart e 0 it (.ref D)<|compEnvC sc (iw env sc.names []) C env) (RR (.ref D) C) ew):
  ZD sc env=pure (iw env sc.names [])/\
  Sm (md S) A (newList []) (λacc nU=>Sm (md S) A (Zz sc env.globals (iw env sc.names []) [] env.qual Sd .none<|KX env) (λcenv ew=>
   Um (md S) A (.compStart e 0 it acc {cenv with scope:=WC sc env}) (RR acc cenv.locals) ew) E nU) E s:=by
 refine qY (λkf O u1 nd=>⟨sm sx.fr cc hc,?_⟩) ok;have F:=sx.fr;have nc:∀x∈sc.names,x.2≠ .cell:=λx hx q=>(List.mem_iff_getElem?.mp hx).elim λi hi=>iC.casesOn (kI cc hi) (λu0 z=>z.elim (λz=>nomatch q.symm.trans z) λz=>nomatch q.symm.trans z) λu0 u1 u2 z u3 u4=>nomatch q.symm.trans z;refine UG<|wpAny_newFunctionEnv nc (λy hy=>nomatch hy) (λjV ua ub=> ?_) kf;dsimp only at ua ub⊢;generalize hH2:s.heap.push {cls:=.type "list",dict:=Sd,data:=.seq ([]).toArray}=H2 at ua ub⊢;have hC:=hH2▸T9 ..;have hCD:H2.objs.size≠s.heap.objs.size:=hC.symm▸Ys _;have fD:W.h.get? s.heap.objs.size=none:=hs▸bz (SN _);have fC:W.h.get? H2.objs.size=none:=hC.symm▸hs▸bz (Tn _);have old:=λb o e=>ub.extBut b o (λq=>oA<|e.symm.trans ((R6 (λb=>W.h.get? b) q).trans fC))<|Su _<|hH2▸Su _ (hs▸e);have hD:=ub.extBut _ _ (Up hCD)<|Su _<|hH2▸SD _ rfl;have d8:W.Hid (W.qE jV H2.objs.size s.heap.objs.size (bJ sc.names).length):=Wd.BP old;have lC:(W.qE jV H2.objs.size s.heap.objs.size (bJ sc.names).length).ah H2.objs.size=KX .fl:=(SI<|fC▸SR).trans<|Sv rfl;have lD:(W.qE jV H2.objs.size s.heap.objs.size (bJ sc.names).length).ah s.heap.objs.size=KX (jy<|bJ sc.names):=(SI<|fD▸SR).trans<|(SI<|Up hCD).trans<|Sv rfl;refine g {s with heap:=jV,toks:=s.toks+([]).length} H2.objs.size s.heap.objs.size (W.qE jV H2.objs.size s.heap.objs.size (bJ sc.names).length) rfl rfl rfl d8 fD fC hCD lD hD lC ⟨_,ua⟩ ⟨sx.ok.kp d8.kp nV,sx.hr.kp d8.kp rfl λu0 u1=>kJ,?_⟩;exact{
  kind:=kf
  gl:=F.gl
  bl:=F.bl
  kn:=λi x kk hi=>(oC hi).elim λq hq=>by have rl:=AO (env:=env) nd hq.1;exact hq.2▸iC.casesOn (kI cc hq.1) (λu0 z=>z.elim (λz=>(R6 (λq=>uc (WC sc env) x<|jO q) z).mpr<|(rl.1 λe=>nomatch z.symm.trans e).trans<|R6 KX z) λz=>(R6 (λq=>uc (WC sc env) x<|jO q) z).mpr<|(rl.1 λe=>nomatch z.symm.trans e).trans<|R6 KX z) λu0 u1 u2 z u3 u4=>(R6 (λq=>uc (WC sc env) x<|jO q) z).mpr (rl.2 z)
  nd:=zW▸nd
  len:=((pF hc).1.trans<|B3 cc).trans (ES _).symm
  ah:=lC
  cod:=λi hi=>(oC hi).elim λq hq=>iC.casesOn (kI cc hq.1) (λu0 z=>z.elim (λz=>nomatch (R6 jO z).symm.trans hq.2) λz=>nomatch (R6 jO z).symm.trans hq.2) λu0 u1 u2 z u3 u4=>nomatch (R6 jO z).symm.trans hq.2
  sl:=⟨_,ua,λi x kk sv hi hl=>(oC hi).elim λq hq=>hq.2▸iC.casesOn (kI cc hq.1)
   (λe3 z=>z.elim (λz=>(R6 (λq=>iB S _ _ _ i x sv<|jO q) z).mpr<|n7.un<|R9<|hl.symm.trans (((pF hc).2 i).1 e3)) λz=>(R6 (λq=>iB S _ _ _ i x sv<|jO q) z).mpr trivial)
   λu0 u1 u2 z u3 u4=>(R6 (λq=>iB S _ _ _ i x sv<|jO q) z).mpr (have hf:=z▸hq.1;B5.casesOn (ym F cc hc hf) λc o v a c1 c2 c3 c4 c5 c6=>
    rQ.at c o v a (yd (SM hf) c1) (c2.elim (λc2=>d8.own c3 c2 rfl) λc2=>c2.elim λj c2=>d8.frame c3 c2 rfl) (d8.keep _ _ c3) (R9<|hl.symm.trans c6) c4 (c5.bE d8.go.toFe))⟩}
end
end
section
variable{iK:Wd}{ℓ:Sh aF}
theorem Wd.Fk.Ce(x:W.Fk aT)(y:aT.Hid iK):W.hide.Go iK where
 keep:=λa o e l=>l6 l (λq O=>y.keep a o<|x.keep a o e q) (λu0 u1 u2 z=>nomatch z) λu0 u1 u2 z=>nomatch z
 free:=λa o e l=>l6 l (λq O=>y.none (x.keep a o e q)<|x.free a o e q) (λu0 u1 u2 z=>nomatch z) λu0 u1 u2 z=>nomatch z
 out:=λa o e l=>l6 l (λu0 z=>nomatch z) (λℓ q p O=>have w:=x.seen a o ℓ p e q;y.frame w.1 w.2 p) λℓ q O z=>have q:=q.trans z.symm;y.own (x.outk a o e q) (x.out a o e q) rfl
 outk:=λa o e l=>l6 l (λu0 z=>nomatch z) (λℓ q p O=>y.keep a o (x.seen a o ℓ p e q).1) λℓ q O z=>y.keep a o (x.outk a o e<|q.trans z.symm)
 dq:=λn hn=>(U0 y.dq n).trans (x.dq n hn)
 N:=Ss x.N (SA y.N.symm)
 aL:=λd n es k e l=>l6 l (λu0 z=>nomatch z) (λu0 u1 u2 z=>nomatch z) λℓ q O z=>iS.casesOn (x.aL d n es k e<|q.trans z.symm) λmore k' e' l'=>⟨more,k',y.keep d _ e',y.own e' l' rfl⟩
def Wd.oW(W W':Wd)(D:SJ)(ℓ:Sh aF):Wd:={W' with ah:=λb=>if b=D then ℓ else(W.back W').ah b}
theorem Wd.EY:(W.oW W' D ℓ).ah D=ℓ:=Sv rfl
theorem Wd.i8{b:SJ}(h:b≠D):(W.oW W' D ℓ).ah b=(W.back W').ah b:=SI h
theorem Wd.Hid.Rl(x:W.Hid aj)(y:aj.Go aT)(f:W.h.get? D=.none):W.Fk (W.oW aT D ℓ):=
 have z:=x.fk y;have ne:∀{a o},W.h.get? a=KX o->a≠D:=λe q=>oA (e.symm.trans ((R6 (λa=>W.h.get? a) q).trans f))
 {keep:=z.keep
  free:=λa o e l=>(Wd.i8<|ne e).trans (z.free a o e l)
  out:=λa o e l=>(Wd.i8<|ne e).trans (z.out a o e l)
  outk:=z.outk
  dq:=z.dq
  N:=z.N
  aL:=λd n es k e l=>iS.casesOn (z.aL d n es k e l) λmore k' e' l'=>⟨more,k',e',(Wd.i8<|ne e).trans l'⟩
  seen:=λa o ℓ p e l=>have q:=z.seen a o ℓ p e l;⟨q.1,(Wd.i8<|ne e).trans q.2⟩}
theorem Wd.Hid.QL(x:W.Hid aj)(y:aj.Go aT)(hD:aT.ah D=KX abx)(hf:abx.bC=R8):aT.Kp aF.own (W.oW aT D ℓ):=
 have z:=x.CB y;have ne:∀{a o},aT.ah a=o->o≠KX abx->a≠D:=λe n q=>n (e.symm.trans ((R6 aT.ah q).trans hD))
 {keep:=z.keep
  free:=λa o e l=>(Wd.i8<|ne l λq=>nomatch q).trans (z.free a o e l)
  dq:=z.dq
  N:=z.N
  lk:=λa o ℓ' p e l=>have q:=z.lk a o ℓ' p e l;⟨q.1,(Wd.i8<|ne l λq=>nomatch (p.1.symm.trans ((R6 aF.bC<|R9 q).trans hf))).trans q.2⟩}
theorem Wd.Nx.fk(g:W₀.Fk W)(x:W.Nx as W')(i:W.jH as)(f:∀a∈as,W₀.h.get? a=.none):W₀.Fk W':=
 ⟨x.go i g.toGo f,λa o ℓ p e l=>have q:=g.seen a o ℓ p e l;⟨x.keep a o q.1 λm=>oA<|e.symm.trans (f a m),(x.ah a o q.1).trans q.2⟩⟩
end
section
theorem St.vh(sx:St S T W env ks loc H)(m:W.Mv (·=jy ks) W'):St S T W' env ks loc H:=
 have kp:=m.kp m8 λℓ p=>p
 ⟨sx.ok.kp kp (λe=>nomatch e),sx.hr.kp kp m.N λn ℓ' h e=>(R6 (aF.ofEntry n) e).mp h,sx.fr.Pr kp (λe=>nomatch e) (λe=>nomatch e) λi hi=>⟨λe=>Tz hi<|DW e,λe=>nomatch e⟩⟩
theorem yO{Q:Sq->Sn->Prop}(h:Q Sj s):
  Sm M A (forIn cs Sj λc r=>if r=R8 then do let ok←Wi c env (TN c env);pure (UQ ok) else pure (UQ r)) Q E s:=by
 induction cs with
 |nil=>exact Sg h
 |cons c cs ih=>
  rw[Xb];exact R7<|bM SR<|Sg ih
theorem Di(ht:iG S T tb r n)(rm:aN A n){Q:Sq->Sn->Prop}{l:R5 ME}:∀{cs:R5 SE} {k:Sf} {s:Sn} {W:Wd} {H:Hp},s.heap=W.h->St S T W env ks loc H->cP tb k ks l cs=R8->iM r l loc H=KX (b,H')->
  cZ s W (λW'=>St S T W' env ks loc H') (Q b)->
  Sm (md S) A (forIn cs R8 λc r=>if r=R8 then do let ok←Wi c env (TN c env);pure (UQ ok) else pure (UQ r)) Q E s:=by
 induction l with
 |nil=>exact fun{cs k s W H} hs sx c h g=>fN (Sg<|((R6 (λp:Sq×Hp=>cZ s W (λW'=>St S T W' env ks loc p.2)<|Q p.1)<|R9 h).mpr g) s W hs rfl rfl (.refl W) sx) c
 |cons m l ih=>
  intro cs k s W H hs sx c h g;refine dQ (λk' e es O u1 c2 c3=>aC (λv H1 h1 h=> ?_) h) c;rw[Xb];refine R7<|gc rfl (R7<|ht c2 rm hs sx h1 λai aj a1 a2 a3 a4 a5=>Sg ?_)
  induction v using Tb with
  |false=>exact yO<|((R6 (λp:Sq×Hp=>cZ s W (λW'=>St S T W' env ks loc p.2)<|Q p.1)<|R9 h).mpr g) ai aj a1 a2 a3 a4 a5
  |true=>exact ih a1 a5 c3 h<|g.after a2 a3 a4
structure AccAt(S:bf)(ks:R5 (SS×VK))(D:SJ)(acc:R5 AV)(us:R5 Se)(j:Sf)(W:Wd):Prop where
 ah:W.ah D=KX (jy ks)
 at_:W.h.get? D=KX (aE us j)
 rv:aA S W us acc
section
theorem AccAt.nx(a:AccAt S ks D acc us j W)(x:W.Nx as W')(i:W.jH as):AccAt S ks D acc us j W':=
 ⟨(x.ah _ _ a.at_).trans a.ah,x.keep _ _ a.at_ (i.ne a.ah λe=>nomatch e),a.rv.bE<|x.fe i⟩
theorem AccAt.tm(a:AccAt S ks D acc us j W)(x:mu ks W W')(l:W.Le W'):AccAt S ks D acc us j W':=have q:=x _ _ a.at_ a.ah;⟨q.2,q.1,a.rv.mono l⟩
theorem AccAt.fk(a:AccAt S ks D acc us j W)(x:W.Fk W'):AccAt S ks D acc us j W':=a.tm x.vh x.toLe
end
abbrev CG(S:bf)(T:cU)(env:Xz)(ks:R5 (SS×VK))(D:SJ)(H':Hp)(vs:R5 AV)(s:Sn)(W₀:Wd)(Q:Sn->Prop):Prop:=
 ∀s' W' loc' us j,eU s W₀ s' W'->St S T W' env ks loc' H'->AccAt S ks D vs us j W'->Q s'
theorem CG.of{Q:Sn->Prop}(g:CG S T env ks D H' vs s W₀ Q)(e:KX (vs',H)=KX (vs,H')):CG S T env ks D H vs' s W₀ Q:=
 (R6 (λp:R5 AV×Hp=>CG S T env ks D p.2 p.1 s W₀ Q)<|R9 e).mpr g
theorem xD(hs:s.heap=W.h)(sx:St S T W env ks loc H){v:AV}(ac:AccAt S ks D acc us j W)(rq:RV S W q v)(z:aw acc.length=R8)
  (g:∀s' W' j',eU s W s' W'->St S T W' env ks loc H->AccAt S ks D (acc++[v]) (us++[q]) j' W'->Q .none s'):
  Sm (md S) A (Wv (.builtin "list.append") [.ref D,q]) Q E s:=
 kU (hs▸ac.at_) (ac.rv.length▸Sw (cJ z) (by decide)) λh' j' g1 sb=>
  have sb:=(R6 (λq=>SO D q h') hs).mp sb;have mv:=Wd.fG ac.ah sb;have le:=mv.le m8
  g {s with heap:=h'} (W.grow h') j' ⟨rfl,rfl,rfl,mv.go m8 λu0 e=>nomatch e⟩ (sx.vh mv) ⟨(mv.ah _ _ ac.at_).trans ac.ah,g1,(aA.cons (rq.mono le) aA.nil).append<|ac.rv.mono le⟩
inductive F1(S:bf)(T:cU)(s:Sn)(W₀:Wd)(env:Xz)(ks:R5 (SS×VK))(D:SJ)(h:R5 AV->R5 AV->Loc->Hp->Prop)(J:Sf->Wd->Prop)(xs:R5 AV)(m:Sf)(s':Sn):Prop
 |mk (i:Sf) (W':Wd) (loc1:Loc) (H1:Hp) (us:R5 Se) (acc:R5 AV) (jn:Sf):eU s W₀ s' W'->J i W'->St S T W' env ks loc1 H1->AccAt S ks D acc us jn W'->h (xs.drop i) acc loc1 H1->m=xs.length+1-i->F1 S T s W₀ env ks D h J xs m s'
set_option tactic.hygienic true in
theorem sF{gs:R5 VI}{gi:Sf}{body:Sem PySem.Fin}(eq:compTurn (.ListComp el gs sc pos) gi it (.ref D) env=(YG p>>=λu0=>aab it>>=λr=>match r with|none=>pure (.done .next)|some v=>Wu tg it v>>=λu0=>Yo tg env v>>=λu0=>body))
  (rm:aN A n) {t:Tg} (I:Iter S tg it xs as J Jm) (hf:∀a∈as,W₀.h.get? a=Sd) (ct:dX ks t tg=R8) {Hh Hb:R5 AV->R5 AV->Loc->Hp->Prop}
  (s0:∀{x l acc loc1 H1},Hh (x::l) acc loc1 H1->∃loc2,gm t x loc1=KX loc2/\Hb l acc loc2 H1)
  (s1:∀{l acc loc2 H1 s4 W4 us jn} {N:PySem.Fin->Sn->Prop},s4.heap=W4.h->St S T W4 env ks loc2 H1->AccAt S ks D acc us jn W4->Hb l acc loc2 H1->(∀{s6 W6 loc3 H3 us acc jn},eU s4 W4 s6 W6->St S T W6 env ks loc3 H3->AccAt S ks D acc us jn W6->Hh l acc loc3 H3->N (.again<|.compLoop (.ListComp el gs sc pos) gi it (.ref D) env) s6)->
   Sm (md S) A body N (notedBy (md S) A env λe s'=>R (.error e) s') s4)
  (fin:∀{acc loc1 H1},Hh [] acc loc1 H1->∀s' W' us j,eU s W₀ s' W'->St S T W' env ks loc1 H1->AccAt S ks D acc us j W'->R (.ok .next) s')
  (a0:eU s W₀ ai aj) (sx:St S T aj env ks loc H) (j:J 0 aj) (ac:AccAt S ks D acc us jn aj) (h:Hh xs acc loc H):Um (md S) A (.compLoop (.ListComp el gs sc pos) gi it (.ref D) env) R ai:=by
 refine codeAny_loop rfl (F1 S T s W₀ env ks D Hh J xs) ?_ (xs.length+1) (.mk 0 aj loc H us acc jn a0 j sx ac h rfl);refine λm s' c=>F1.casesOn c λi W' loc1 H1 us acc jn a a5 a6 ac a7 em=> ?_;refine wpAny_noted ?_;rw[eq];refine R7<|TU<|R7<|I.next rm.hd a.heap a5 (λx hx q s2 W2 b1 b2 b3 b4 b5 b6=> ?_) λhx s2 W2 b1 b2 b3 b4=> ?_
 ·have lt:=List.getElem?_eq_some_iff.mp hx
  have aa:=a.nx b1 b2 b3 b4 (I.fR a5) hf;have ac2:=ac.nx b4<|I.fR a5;refine R7<|I.go b1 b5 λs3 W3 c1 c2 c3 c4 c5=> ?_;have aa:=aa.nx c1 c2 c3 c4 (I.n6 b5) hf;have ac3:=ac2.nx c4<|I.n6 b5;refine lt.elim λlt ex=>(s0 ((R6 (λl=>Hh l acc loc1 H1) ((Y5 lt).trans (R6 (·::xs.drop (i+1)) ex))).mp a7)).elim λloc2 h2=>
   R7 (Ab rm c1 ((a6.nx b4<|I.fR a5).nx c4<|I.n6 b5) ct h2.1 (b6.bE<|c4.fe<|I.n6 b5) λs4 W4 d1 d2 d3 d4 d5=>s1 d1 d5.1 (ac3.tm d5.2 d4.toLe) h2.2 λx sx ac h=> ?_);exact ⟨rfl,xs.length+1-(i+1),em▸Z4 (UD lt) (T5 i),.mk (i+1) _ _ _ _ _ _ ((aa.trans ⟨d1,d2,d3,d4⟩).trans x) (I.le c5<|d4.toLe.trans x.go.toLe) sx ac h rfl⟩
 ·exact Sg<|fin ((R6 (λl=>Hh l acc loc1 H1)<|Zs<|List.getElem?_eq_none_iff.mp hx).mp a7) s2 W2 us jn (a.nx b1 b2 b3 b4 (I.fR a5) hf) (a6.nx b4<|I.fR a5)<|ac.nx b4<|I.fR a5
theorem D3(he:bH S T tb r n)(ht:iG S T tb r n)(rm:aN A n){t:Tg}{iter:SE}(I:Iter S tg it xs as J Jm)
  (hf:∀a∈as,W₀.h.get? a=Sd) (ct:dX ks t tg=R8) (ci:cP tb k1 ks ifs cs=R8) (ce:aK tb k2 ks elt el=R8) (a0:eU s W₀ ai aj)
  (sx:St S T aj env ks loc H) (j:J 0 aj) (ac:AccAt S ks D acc us jn aj) (h:eA r t ifs elt xs acc loc H=KX (vs,H'))
  (g:CG S T env ks D H' vs s W₀ (R<|.ok .next)):Um (md S) A (.compLoop (.ListComp el [⟨tg,iter,cs,0⟩] sc pos) 0 it (.ref D) env) R ai:=by
 refine sF (compTurn_list ..) rm I hf ct (Hh:=λl acc loc H=>eA r t ifs elt l acc loc H=KX (vs,H'))
  (Hb:=λl acc loc1 H=>(bq (iM r ifs loc1 H) λb H1=>UI b (bq (r.e elt loc1 H1) λv H2=>if aw acc.length then eA r t ifs elt l (acc++[v]) loc1 H2 else Sd)<|eA r t ifs elt l acc loc1 H1)=KX (vs,H'))
  (λh=>bG (λloc2 h2 h=>⟨loc2,h2,h⟩) h) ?_ (λh s' W' us j a sx ac=>g.of h s' W' _ us j a sx ac) a0 sx j ac h;intro l acc loc2 H1 s4 W4 us jn N hs sx ac h ag;refine aC (λb H3 h3 h=>R7<|Di ht rm hs sx ci h3 λs5 W5 e1 e2 e3 e4 e5=> ?_) h;have ac5:=ac.fk e4
 induction b using Tb with
 |false=>exact bM SR<|Sg<|ag ⟨e1,e2,e3,e4.toGo⟩ e5 ac5 h
 |true=>exact gc rfl (aC (λv H4 h4 h=>aR (λz h=>R7<|R7<|eg he rm e1 e5 ce h4 λq s6 W6 g1 g2 g3 g4 g5 g6=>R7<|xD g1 g5 (ac5.fk g4) g6 z λs7 W7 j7 i1 i2 i3=>Sg<|Sg<|ag (eU.trans ⟨e1,e2,e3,e4.toGo⟩<|eU.trans ⟨g1,g2,g3,g4.toGo⟩ i1) i2 i3 h) h) h)
end
section
def rW(S:bf)(T:cU)(env:Xz)(ks:R5 (SS×VK))(loc:Loc)(H':Hp)(tg:SE)(xs:R5 AV)(s:Sn)(W:Wd)(G:Se->Sn->Prop):Prop:=
 ∀it as J Jm aX aT,aX.heap=aT.h->aX.gens=s.gens->aX.os=s.os->W.Fk aT->St S T aT env ks loc H'->Iter S tg it xs as J Jm->J 0 aT.hide->(∀a∈as,W.h.get? a=Sd)->(∀a,aT.h.get? a=Sd->W.h.get? a=Sd)->G it aX
theorem rW.g(h:rW S T env ks loc H' tg xs s W G):sC S T env ks loc H' tg xs s W G:=
 λit as J Jm aX aT c1 c2 c3 c4 c5 c6 c7 c8 c9 O=>h it as J Jm aX aT c1 c2 c3 c4 c5 c6 (c6.le c7 aT.sq.go.toLe) c8 c9
def qS(S:bf)(T:cU)(P:PD)(tb:gh)(r:Rec)(n:Sf):Prop:=∀{k:Sf} {ks:R5 (SS×VK)} {src:Src} {e tg:SE} {A:Vj} {s:Sn} {W:Wd} {env:Xz} {loc:Loc} {H H':Hp} {xs:R5 AV} {G:Se->Sn->Prop} {E:Se->Sn->Prop},
 ir tb k ks src e=R8->iJ src tg=R8->aN A n->s.heap=W.h->St S T W env ks loc H->abw P r src loc H=KX (xs,H')->
 (∀ai aj,ai.heap=aj.h->ai.gens=s.gens->ai.os=s.os->W.Fk aj->St S T aj env ks loc H'->rW S T env ks loc H' tg xs ai aj G)->
 Sm (md S) A (TN e env) (λx ai=>Sm (md S) A (WJ x) G E ai) E s
abbrev CF(S:bf)(T:cU)(env:Xz)(ks:R5 (SS×VK))(loc:Loc)(H':Hp)(vs:R5 AV)(ℓ:Sh aF)(s:Sn)(W:Wd)(RR:Se->SJ->ZG->Sn->Prop):Prop:=
 ∀D C s' X us j m,s'.heap=X.h->s'.gens=s.gens->s'.os=s.os->W.Fk X->St S T X env ks loc H'->X.ah D=ℓ->X.h.get? D=KX (aE us j)->aA S X us vs->W.h.get? D=Sd->X.ah C=KX .out->X.h.Ns C m->W.h.get? C=Sd->C≠D->RR (.ref D) C (.ok .next) s'
theorem th{it0:SE}{rest:R5 VI}(cc:gJ ks cap sc.names=R8)(ok:nM sc=R8)(hc:fX loc cap=KX loc')(rm:aN A n)
  {aX:Sn} (b1:aX.heap=aT.h) (b2:aX.gens=s.gens) (b3:aX.os=s.os) (b4:W.Fk aT) (fr:FR S W env ks loc) (b5:St S T aT env ks loc H1) (I:Iter S tg it xs as J Jm) (j:J 0 aT.hide)
  (hf:∀a∈as,W.h.get? a=Sd) (hk:∀a,aT.h.get? a=Sd->W.h.get? a=Sd)
  (loop:∀{env':Xz} {ai:Sn} {aj W₀:Wd} {D:SJ} {R:ZG->Sn->Prop},(∀a∈as,W₀.h.get? a=Sd)->eU s W₀ ai aj->St S T aj env' (bJ sc.names) loc' H1->J 0 aj->AccAt S (bJ sc.names) D [] [] 0 aj->
   CG S T env' (bJ sc.names) D H' vs s W₀ (R<|.ok .next)->Um (md S) A (.compLoop (.ListComp el (⟨tg,it0,cs,0⟩::rest) sc pos) 0 it (.ref D) env') R ai)
  (ℓ:Sh aF) {RR:Se->SJ->ZG->Sn->Prop} (fin:CF S T env ks loc H' vs ℓ s W RR):
  ZD sc env=pure (iw env sc.names [])/\
  Sm (md S) A (newList []) (λacc nU=>Sm (md S) A (Zz sc env.globals (iw env sc.names []) [] env.qual Sd .none<|KX env) (λcenv ew=>
   Um (md S) A (.compStart (.ListComp el (⟨tg,it0,cs,0⟩::rest) sc pos) 0 it acc {cenv with scope:=WC sc env}) (RR acc cenv.locals) ew) E nU) E aX:=
 B1 b1 b5 cc hc ok λew C D iK q1 q2 q3 d8 fD fC hCD lD gD lC nsC OA=>
  have OB:=b4.Ce d8;have j4:=I.le j ((Wd.Fk.refl aT).Ce d8).toLe;have run:=loop (W₀:=W.hide) hf ⟨q1,q2.trans b2,q3.trans b3,OB⟩ OA j4 ⟨lD,gD,aA.nil⟩ λs' W' loc'' us jn c c5 ac=>by have hh:=W.sq;have kp:=hh.QL (ℓ:=ℓ) c.go ac.ah rfl;have fk:W.Fk (W.oW W' D ℓ):=hh.Rl c.go<|hk _ fD;have lc:(W.oW W' D ℓ).ah C=KX .out:=(Wd.i8 hCD).trans<|(Wd.xe<|hk _ fC).trans<|R6 di c5.fr.ah;exact rK.casesOn c5.fr.sl λm hm O=>fin D C s' (W.oW W' D ℓ) us jn m c.heap c.gens c.os fk ⟨c5.ok.kp kp nV,c5.hr.kp kp rfl λu0 u1=>kJ,fr.kp fk.kp⟩ Wd.EY ac.at_ (ac.rv.bE kp.toFe) (hk _ fD) lc hm (hk _ fC) hCD
  codeAny_compStart_list run (I.self rm.hd q1 j4 run)
theorem Hk{X:Wd}(sb:SO C X.h h'):X.Nx [C] (X.grow h'):=.grow λb o nb e=>(sb.2 b λq=>nb<|List.mem_singleton.mpr q).trans e
theorem Cw{X:Wd}{m:SS->Sh Se}(l:X.ah C=KX .out)(h:X.h.Ns C m):X.jH [C]:=h.elim λo q=>q.elim λes q=>q.elim λep q=> .one l q.1 λv z=>nomatch q.2.1.symm.trans z
theorem wV(h:W.h.get? C=Sd):∀a∈[C],W.h.get? a=none:=λa ha=>(R6 (λa=>W.h.get? a)<|List.mem_singleton.mp ha).trans h
theorem ug{ℓ:Sh aF}{e:Se->Sn->Prop}
  (g:∀D s' X us j,s'.heap=X.h->s'.gens=s.gens->s'.os=s.os->W.Fk X->St S T X env ks loc H'->X.ah D=ℓ->X.h.get? D=KX (aE us j)->aA S X us vs->W.h.get? D=Sd->G (.ref D) s'):
  CF S T env ks loc H' vs ℓ s W (λacc C=>aaN (md S) A e Sd G acc C):=by intro D C s' X us j m c1 c2 c3 c4 c5 c6 c7 c8 c9 d1 d2 d3 d4;refine ⟨m,c1▸d2,λh' sb=> ?_⟩;have nx:=Hk<|(R6 (λq=>SO C q h') c1).mp sb;have fR:=Cw d1 d2;exact g D {s' with heap:=h'} (X.grow h') us j rfl c2 c3 (nx.fk c4 fR<|wV d3) (c5.nx nx fR) ((nx.ah _ _ c7).trans c6) (nx.keep _ _ c7 λq=>d4 (List.mem_singleton.mp q).symm) (c8.bE<|nx.fe fR) c9
theorem JX{ℓ:Sh aF}{x:SS}{i:Sf}(hk:ks[i]? =KX (x,vk))(ho:vk=.l\/(vk=.c/\∃a,sv=.fr a))
  (hsv:∀X D us j,X.ah D=ℓ->X.h.get? D=KX (aE us j)->aA S X us vs->bV S X (.fs i) (λu0=> .fs i) (.ref D) sv)
  (g:∀s' X,eU s W s' X->St S T X env ks (loc.set i sv) H'->G .none s'):
  CF S T env ks loc H' vs ℓ s W (λacc C=>aaN (md S) A E (KX<|Yo (.Name x p) env) G acc C):=by intro D C s' X us j m c1 c2 c3 c4 c5 c6 c7 c8 c9 d1 d2 d3 d4;refine WY<|fO c1 c5 hk ho (hsv X D us j c6 c7 c8) λaX GA e1 e2 e3 e4 e5=> ?_;have d:GA.h.Ns C m/\GA.ah C=KX .out:=d2.elim λo q=>q.elim λes q=>q.elim λep q=>⟨⟨o,es,ep,e4.outk _ _ q.1 d1,q.2⟩,e4.out _ _ q.1 d1⟩;refine ⟨m,e1▸d.1,λh' sb=> ?_⟩;have nx:=Hk<|(R6 (λq=>SO C q h') e1).mp sb;have fR:=Cw d.2 d.1;exact g {aX with heap:=h'} (GA.grow h') ⟨rfl,e2.trans c2,e3.trans c3,nx.go fR (c4.toGo.trans e4)<|wV d3⟩<|e5.nx nx fR
theorem yv(nd:(sc.names.map (·.1)).Nodup):∀y∈sc.names,y.2=.local->sc.names.lookup y.1=KX .local:=λu0 hy e=>
 (List.mem_iff_getElem?.mp hy).elim λu0 hi=>(lookup_at nd hi).trans<|R6 KX e
theorem vt(he:bH S T tb r n)(ht:iG S T tb r n)(hr:qS S T P tb r n)(rm:aN A n)(hs:s.heap=W.h)(sx:St S T W env ks loc H){t:Tg}{it:SE}
  (cc:gJ ks cap sc.names=R8) (ct:dX (bJ sc.names) t tg=R8) (st':iJ src tg=R8) (cs':ir tb k ks src it=R8) (ci:cP tb k (bJ sc.names) ifs cs=R8) (ce:aK tb k (bJ sc.names) elt el=R8) (ok:nM sc=R8)
  (h1:abw P r src loc H=KX (xs,H1)) (hc:fX loc cap=KX loc') (h2:eA r t ifs elt xs [] loc' H1=KX (vs,H')) (ℓ:Sh aF) {use:Sh (Se->Sem TZ)}
  (fin:∀ai aj,ai.gens=s.gens->ai.os=s.os->W.Fk aj->CF S T env ks loc H' vs ℓ ai aj (λacc C=>aaN (md S) A E use Q acc C)):
  Sm (md S) A (comprehension (.ListComp el [⟨tg,it,cs,0⟩] sc pos) sc env p0 (newList []) Sj (TN it env) use) Q E s:=
 qY (λkf O u1 nd=>ZP rfl (lS env · (mY cs')) (sm sx.fr cc hc) kf (yv nd) (hr cs' st' rm hs sx h1 λai aj a1 a2 a3 a4 a5 itv as J Jm aX aT b1 b2 b3 b4 b5 I j hf hk=>
  (th cc ok hc rm b1 b2 b3 b4 a5.fr b5 I j hf hk (λhf a sx j ac g=>D3 he ht rm I hf ct ci ce a sx j ac h2 g) ℓ<|fin ai aj a2 a3 a4).2)) ok
theorem Mc(he:bH S T tb r n)(ht:iG S T tb r n)(hr:qS S T P tb r n)(rm:aN A n)(hs:s.heap=W.h)(sx:St S T W env ks loc H){t:Tg}{it:SE}
  (cc:gJ ks cap sc.names=R8) (ct:dX (bJ sc.names) t tg=R8) (st':iJ src tg=R8) (cs':ir tb k ks src it=R8) (ci:cP tb k (bJ sc.names) ifs cs=R8) (ce:aK tb k (bJ sc.names) elt el=R8) (ok:nM sc=R8)
  (h1:abw P r src loc H=KX (xs,H1)) (hc:fX loc cap=KX loc') (h2:eA r t ifs elt xs [] loc' H1=KX (vs,H')) (g:EG S T env ks loc H' (.lst vs) s W Q):Sm (md S) A (TN (.ListComp el [⟨tg,it,cs,0⟩] sc pos) env) Q E s:=by rw[ZR];exact vt he ht hr rm hs sx cc ct st' cs' ci ce ok h1 hc h2 Sd λai aj a2 a3 a4=>ug λD s' X us j c1 c2 c3 c4 c5 c6 c7 c8 c9=>(g.after a2 a3 a4) _ s' X c1 c2 c3 c4 ⟨c5,.lst c7 c6 c8⟩
theorem A0{t:SE}{l:Sf}:∃b,swapsWith y (KX t) l env=pure b:=by
 induction y using SH<;>first|exact ⟨_,rfl⟩|(induction t using SH<;>exact ⟨_,rfl⟩)
def P9(S:bf)(T:cU)(ks:R5 (SS×VK))(A:Vj)(s:Sn)(W:Wd)(env:Xz)(loc:Loc)(H':Hp)(E:Se->Sn->Prop)(vs:R5 AV)(el tg it:SE)(cs:R5 SE)(sc:Xk)(pos:Vu):Prop:=∀(ℓ:Sh aF) (use:Sh (Se->Sem TZ)) (p0:Vu) (Q:Se->Sn->Prop),
  (∀ai aj,ai.gens=s.gens->ai.os=s.os->W.Fk aj->CF S T env ks loc H' vs ℓ ai aj (λacc C=>aaN (md S) A E use Q acc C))->
  Sm (md S) A (comprehension (.ListComp el [⟨tg,it,cs,0⟩] sc pos) sc env p0 (newList []) Sj (TN it env) use) Q E s
def BE(S:bf)(T:cU)(P:PD)(tb:gh)(r:Rec)(n:Sf):Prop:=∀{k:Sf} {ks:R5 (SS×VK)} {cap:R5 (Sh Sf)} {t:Tg} {src:Src} {ifs:R5 ME} {elt:ME} {y:SE} {A:Vj} {s:Sn} {W:Wd} {env:Xz} {loc:Loc} {H H':Hp} {v:AV} {E:Se->Sn->Prop} {G:SE->AV->Prop},
 aK tb k ks (.comp cap t src ifs elt) y=R8->aN A n->s.heap=W.h->St S T W env ks loc H->r.e (.comp cap t src ifs elt) loc H=KX (v,H')->
 (∀el tg it cs sc pos vs,P9 S T ks A s W env loc H' E vs el tg it cs sc pos->G (.ListComp el [⟨tg,it,cs,0⟩] sc pos) (.lst vs))->G y v
set_option tactic.hygienic true in
theorem GB(hX:BE S T P tb r n)(rm:aN A n)(hs:s.heap=W.h)(sx:St S T W env ks loc H){a:ME}{x:SS}{v:AV}{Q:WX->Sn->Prop}
  (ia:EN a=R8) (ca:aK tb k ks a y=R8) (h:r.e a loc H=KX (v,H')) (ℓ:Sh aF) {i:Sf} (hk:ks[i]? =KX (x,vk)) (ho:vk=.l\/(vk=.c/\∃a,sv=.fr a))
  (hsv:∀X D us j vs,v=.lst vs->X.ah D=ℓ->X.h.get? D=KX (aE us j)->aA S X us vs->bV S X (.fs i) (λu0=> .fs i) (.ref D) sv) (g:SG S T env ks (loc.set i sv) H' .nx s W Q):Sm (md S) A (Ve (.Assign [.Name x p'] y p) env) Q E s:=by
 induction a using ME.casesOn<;>first|exact bc ia|skip
 refine hX (E:=E) (G:=λy v=>(∀X D us j vs,v=.lst vs->X.ah D=ℓ->X.h.get? D=KX (aE us j)->aA S X us vs->bV S X (.fs i) (λu0=> .fs i) (.ref D) sv)->Sm (md S) A (Ve (.Assign [.Name x p'] y p) env) Q E s) ca rm hs sx h (λel tg it cs sc pos vs run hsv=> ?_) hsv;refine(A0 (env:=env) (y:=.ListComp el [⟨tg,it,cs,0⟩] sc pos) (t:=.Name x p') (l:=p.line)).elim λb hb=> ?_
 induction b using Tb with
 |false=>
  refine Vk ?_ hb;rw[ZR];exact run ℓ _ _ _ λai aj a2 a3 a4=>ug λD s' X us j c1 c2 c3 c4 c5 c6 c7 c8 c9=>fO c1 c5 hk ho (hsv X D us j _ rfl c6 c7 c8) λnU yK d1 d2 d3 d4 d5=>(g.after a2 a3 a4.toGo).fin ⟨d1,d2.trans c2,d3.trans c3,c4.toGo.trans d4⟩ d5 rfl
 |true=>
  rw[exec_Assign_Name_used _ _ _ _ hb];refine R7<|TU<|R7 ?_;refine R7<|TS (run ℓ _ _ (λu0 s'=>Q .next s') λai aj a2 a3 a4=>JX hk ho (λX D us j=>hsv X D us j _ rfl) λs' X c c5=>(g.after a2 a3 a4.toGo).fin c c5 rfl) (λu0 s' hq=>Sg<|Sg hq) λu0 u1 e=>e
end
theorem zk(el tg it1 fE it2:SE)(scope:Xk)(pos:Vu)(it acc:Se)(env:Xz):
  compTurn (.ListComp el [⟨tg,it1,[],0⟩,⟨fE,it2,[],0⟩] scope pos) 1 it acc env=(YG it2.pos>>=λu0=>aab it>>=λr=>match r with
   |none=>pure<|.done .next
   |some v=>Wu fE it v>>=λu0=>Yo fE env v>>=λu0=>
    (TN el env>>=λx=>Wv (.builtin "list.append") [acc,x]>>=λu0=>pure ())>>=λu0=>
     again (.compLoop (.ListComp el [⟨tg,it1,[],0⟩,⟨fE,it2,[],0⟩] scope pos) 1 it acc env)):=by rfl
theorem xA(el tg it1 fE it2:SE)(scope:Xk)(pos:Vu)(it acc:Se)(env:Xz):
  compTurn (.ListComp el [⟨tg,it1,[],0⟩,⟨fE,it2,[],0⟩] scope pos) 0 it acc env=(YG it1.pos>>=λu0=>aab it>>=λr=>match r with
   |none=>pure<|.done .next
   |some v=>Wu tg it v>>=λu0=>Yo tg env v>>=λu0=>
    (TN it2 env>>=λx=>YG it2.pos>>=λu0=>foldedSetIterable it2 env x>>=λx=>holding [x] (WJ x)>>=λit'=>
     runOwn (.compStart (.ListComp el [⟨tg,it1,[],0⟩,⟨fE,it2,[],0⟩] scope pos) 1 it' acc env) env>>=λu0=>
     again (.compLoop (.ListComp el [⟨tg,it1,[],0⟩,⟨fE,it2,[],0⟩] scope pos) 0 it acc env))):=by rfl
section
theorem xU{scope:Xk}{acc:Se}
  (h0:Um (md S) A (.compLoop (.ListComp el [⟨tg,it1,[],0⟩,⟨fE,it2,[],0⟩] scope pos) 1 it acc env) R s)
  (h:Sm (md S) A (WJ it) (λit' s'=>Um (md S) A (.compLoop (.ListComp el [⟨tg,it1,[],0⟩,⟨fE,it2,[],0⟩] scope pos) 1 it' acc env) R s')
   (notedBy (md S) A env λx s'=>R (.error x) s') s):
  Um (md S) A (.compStart (.ListComp el [⟨tg,it1,[],0⟩,⟨fE,it2,[],0⟩] scope pos) 1 it acc env) R s:=by
 refine Zh ?_;refine wpAny_notedAt ?_;refine R7<|Vx<|wpAny_ite ?_
 split
 ·first
   |exact R7<|Sg<|Sg<|Zw rfl h0
   |exact Sg<|Zw rfl h0
 ·first
   |exact R7<|Uz<|R7<|TU<|R7<|TS h (λit' s' h'=>Sg<|Zw rfl h') λu0 u1 x=>x
   |(refine R7 (Uz ?_);show Sm _ _ (YG it2.pos>>=_) _ _ s;exact R7<|TU<|R7<|TS h (λit' s' h'=>Sg<|Zw rfl h') λu0 u1 x=>x)
theorem HP(he:bH S T tb r n)(rm:aN A n){t:Tg}(I:Iter S fE it xs as J Jm)
  (hf:∀a∈as,W₀.h.get? a=Sd) (ct:dX ks t fE=R8) (ce:aK tb k2 ks elt el=R8) (a0:eU s W₀ ai aj)
  (sx:St S T aj env ks loc H) (j:J 0 aj) (ac:AccAt S ks D acc us jn aj) (h:mw r t elt xs acc loc H=KX (vs,loc',H'))
  (g:∀s' W' us j,eU s W₀ s' W'->St S T W' env ks loc' H'->AccAt S ks D vs us j W'->R (.ok .next) s'):
  Um (md S) A (.compLoop (.ListComp el [⟨tg,it1,[],0⟩,⟨fE,it2,[],0⟩] sc pos) 1 it (.ref D) env) R ai:=by
 refine sF (zk ..) rm I hf ct (Hh:=λl acc loc H=>mw r t elt l acc loc H=KX (vs,loc',H'))
  (λh=>bG (λloc2 h2 h=>⟨loc2,h2,h⟩) h) ?_ (λh=>(R6 (λp:R5 AV×Loc×Hp=>∀s' W' us j,eU s W₀ s' W'->St S T W' env ks p.2.1 p.2.2->AccAt S ks D p.1 us j W'->R (.ok .next) s')<|R9 h).mpr g) a0 sx j ac h;intro l acc loc2 H1 s4 W4 us jn N hs sx ac h ag;exact aC (λv H4 h4 h=>aR (λz h=>R7<|R7<|eg he rm hs sx ce h4 λq s6 W6 g1 g2 g3 g4 g5 g6=>R7<|xD g1 g5 (ac.fk g4) g6 z λs7 W7 j7 i1 i2 i3=>Sg<|Sg<|ag (eU.trans ⟨g1,g2,g3,g4.toGo⟩ i1) i2 i3 h) h) h
theorem ED(st:bU S T P tb)(hz:rh S T)(he:bH S T tb r n)(rm:aN A n){t t2:Tg}{s2:Src}(I:Iter S tg it xs as J Jm)
  (hf:∀a∈as,W₀.h.get? a=Sd) (ct:dX ks t tg=R8) (ct2:dX ks t2 fE=R8) (sT:iJ s2 fE=R8) (nc:oP s2=R8) (cs:ir tb k1 ks s2 it2=R8) (ce:aK tb k2 ks elt el=R8) (a0:eU s W₀ ai aj)
  (sx:St S T aj env ks loc H) (j:J 0 aj) (ac:AccAt S ks D acc us jn aj) (h:jA P r t t2 s2 elt xs acc loc H=KX (vs,H'))
  (g:CG S T env ks D H' vs s W₀ (R<|.ok .next)):
  Um (md S) A (.compLoop (.ListComp el [⟨tg,it1,[],0⟩,⟨fE,it2,[],0⟩] sc pos) 0 it (.ref D) env) R ai:=by
 refine sF (xA ..) rm I hf ct (Hh:=λl acc loc H=>jA P r t t2 s2 elt l acc loc H=KX (vs,H'))
  (λh=>bG (λloc2 h2 h=>⟨loc2,h2,h⟩) h) ?_ (λh s' W' us j a sx ac=>g.of h s' W' _ us j a sx ac) a0 sx j ac h;intro l acc loc2 H1 s4 W4 us jn N hs sx ac h ag;refine aC (λys H4 h4 h=>bG (λp h5 h=> ?_) h) h;refine R7<|TS (ro (G:=λit' s'=>Um (md S) A (.compStart (.ListComp el [⟨tg,it1,[],0⟩,⟨fE,it2,[],0⟩] sc pos) 1 it' (.ref D) env) (λrr s'=>match rr with
   |.ok _=>N (.again<|.compLoop (.ListComp el [⟨tg,it1,[],0⟩,⟨fE,it2,[],0⟩] sc pos) 0 it (.ref D) env) s'
   |.error e=>cameBackBy (md S) A env (notedBy (md S) A env λe s'=>R (.error e) s') e s') s')
   st hz he rm hs sx cs sT nc h4 λs5 W5 e1 e2 e3 e4 e5 itv as2 J2 Jm2 s6 W6 g1 g2 g3 g4 g5 I2 j2 hf2 O u1=> ?_) (λxv s6 h6=>R7<|TU<|R7<|aaF (lS env xv<|mY cs)<|R7<|SY<|TS h6 (λit' s7 h7=>R7<|wpAny_runOwn<|aah h7 λr s' hr=> ?_) λu0 u1 x=>x) λu0 u1 x=>x
 ·have run:=HP (tg:=tg) (it1:=it1) (it2:=it2) (sc:=sc) (pos:=pos) he rm I2 hf2 ct2 ce ⟨g1,g2,g3,g4.toGo⟩ g5 j2 ((ac.fk e4).fk g4) h5 (R:=λrr s'=>match rr with
   |.ok _=>N (.again<|.compLoop (.ListComp el [⟨tg,it1,[],0⟩,⟨fE,it2,[],0⟩] sc pos) 0 it (.ref D) env) s'
   |.error e=>cameBackBy (md S) A env (notedBy (md S) A env λe s'=>R (.error e) s') e s') λs' W' us jn c sx ac=>ag (eU.trans ⟨e1,e2,e3,e4.toGo⟩ c) sx ac h
  exact xU run<|I2.self rm.hd g1 j2 run
 ·induction r using Except.casesOn with
  |ok f=>exact Sg hr
  |error e=>exact hr
end
section
theorem J6(st:bU S T P tb)(hz:rh S T)(he:bH S T tb r n)(rm:aN A n)(hs:s.heap=W.h)(sx:St S T W env ks loc H){t t2:Tg}{s1 s2:Src}{it:SE}
  (cc:gJ ks cap sc.names=R8) (ct:dX (bJ sc.names) t tg=R8) (st':iJ s1 tg=R8) (cs':ir tb k ks s1 it=R8) (ct2:dX (bJ sc.names) t2 fE=R8) (sT2:iJ s2 fE=R8) (n1:oP s1=R8) (n2:oP s2=R8) (cs2:ir tb k (bJ sc.names) s2 it2=R8) (ce:aK tb k (bJ sc.names) elt el=R8) (ok:nM sc=R8)
  (h1:abw P r s1 loc H=KX (xs,H1)) (hc:fX loc cap=KX loc') (h2:jA P r t t2 s2 elt xs [] loc' H1=KX (vs,H')) (g:EG S T env ks loc H' (.lst vs) s W Q):Sm (md S) A (TN (.ListComp el [⟨tg,it,[],0⟩,⟨fE,it2,[],0⟩] sc pos) env) Q E s:=by
 rw[ZR];exact qY (λkf O u1 nd=>ZP rfl (lS env · (mY cs')) (sm sx.fr cc hc) kf (yv nd)
  (ro st hz he rm hs sx cs' st' n1 h1 λai aj a1 a2 a3 a4 a5=>rW.g λitv as J Jm aX aT b1 b2 b3 b4 b5 I j hf hk=>
   (th cc ok hc rm b1 b2 b3 b4 a5.fr b5 I j hf hk (λhf a sx j ac g=>ED st hz he rm I hf ct ct2 sT2 n2 cs2 ce a sx j ac h2 g) Sd
    (ug λD s' X us j c1 c2 c3 c4 c5 c6 c7 c8 c9=>(g.after a2 a3 a4) _ s' X c1 c2 c3 c4 ⟨c5,.lst c7 c6 c8⟩)).2)) ok
def uO(S:bf)(W:Wd)(q:Se)(v:AV):Prop:=RV S W q v\/∃i sv,bV S W (.fs i) (λu0=> .fs i) q sv/\sv.frozen=KX v
def pI(S:bf)(W:Wd)(us:R5 Se)(vs:R5 AV):Prop:=S8 (motive:=λu0=>R5 Se->Prop) (λus=>us=[]) (λv O ih us=>aG (λq=>uO S W q v) ih us) vs us
theorem uO.fk{v:AV}(a:uO S W q v)(k:W.Fk W'):uO S W' q v:=
 a.imp (λa=>a.mono k.toLe) λa=>a.elim λi a=>a.elim λsv a=>⟨i,sv,a.1.kp k.kp (.inr rfl) λu0=> .inr rfl,a.2⟩
theorem FX{i:Sf}{x:SS}{v:AV}(hs:s.heap=W.h)(F:FR S W env ks loc)(hc:cA ks i x=R8)(hl:loc[i]? =KX sv)(hf:sv.frozen=KX v)(g:∀q,uO S W q v->Q q s):Sm (md S) A (aaM env x) Q E s:=by
 have hu:sv≠ .un:=λe=>au<|(R6 SV.frozen e).symm.trans hf;have fin:(∃a,sv=.fr a)->Sm (md S) A (aaM env x) Q E s:=λz=>z.elim λa e=>have ea:=R9 ((R6 SV.frozen e).symm.trans hf);eR hs F hc (hl.trans<|R6 KX<|e.trans<|R6 SV.fr ea) λq r=>g q<|.inl r;refine jr (λk hk ng O u1=>(F.lookup hk hl).2.elim λm q=> ?_) hc;have q:=q.2
 induction k using VK.casesOn with
 |l=>exact nY hs F hk hl hu λq O r=>g q<|.inr ⟨i,sv,r,hf⟩
 |c=>exact n8.casesOn q (λu0 u1 u2 u3 u4 u5 z u6=>(hu z).elim) λu0 u1 u2 a u3 u4 u5 z u6 u7=>fin ⟨a,z⟩
 |r=>exact rQ.casesOn q (λz=>(hu z).elim) λu0 u1 u2 a u3 u4 u5 z u6 u7=>fin ⟨a,z⟩
 |g=>exact(ng rfl).elim
theorem ME.KR{m:ME}{d y:β}{f:Sf->β}{P:ME->Prop}(k:∀i,f i=y->P (.v i))(h:m.KA d f=y)(h':d=y->P m):P m:=by
 induction m using ME.casesOn<;>first|exact h' h|exact k _ h
theorem PV(he:bH S T tb r n){l:R5 ME}:∀{k:Sf} {es:R5 SE} {s:Sn} {W:Wd} {H:Hp} {vs:R5 AV} {Q:R5 Se->Sn->Prop} {pos:Vu},cP tb k ks l es=R8->aN A n->s.heap=W.h->St S T W env ks loc H->G2 r l loc H=KX (vs,H')->
  (∀us,cZ s W (λW'=>St S T W' env ks loc H'/\pI S W' us vs)<|Q us)->Sm (md S) A (spliced<|Ww pos<|UY es env) Q E s:=by
 induction l with
 |nil=>exact fun{k es s W H vs Q pos} c rm hs sx h g=>fN (To<|((R6 (λp:R5 AV×Hp=>∀us,cZ s W (λW'=>St S T W' env ks loc p.2/\pI S W' us p.1)<|Q us)<|R9 h).mpr g) [] s W hs rfl rfl (.refl W) ⟨sx,rfl⟩) c
 |cons m l ih=>
  intro k es s W H vs Q pos c rm hs sx h g;refine dQ (λk' e es' O c1 c2 c3=>Tc (aC (λv H1 h1 h=>aC (λvs' H2 h2 h=> ?_) h) h)<|eI c1) c;have g:=(R6 (λl=>∀us,cZ s W (λW'=>St S T W' env ks loc H'/\pI S W' us l)<|Q us)<|R6 VJ<|R9 h).mpr g;have h2:=h2.trans<|R6 (λh=>KX (vs',h))<|R6 Xn<|R9 h;have rest:∀{q ai aj},ai.heap=aj.h->ai.gens=s.gens->ai.os=s.os->W.Fk aj->St S T aj env ks loc H1->uO S aj q v->Sm (md S) A (spliced<|Ww pos<|UY es' env) (λvs aX=>Q (q::vs) aX) E ai:=
   fun{q _ _} a1 a2 a3 a4 a5 a6=>ih c3 rm a1 a5 h2 λus aX aT b1 b2 b3 b4 b5=>g (q::us) aX aT b1 (b2.trans a2) (b3.trans a3) (a4.trans b4) ⟨b5.1,(aG.mk (a6.fk b4) b5.2)⟩;refine ME.KR (P:=λm=>aK tb k' ks m e=R8->Sm (md S) A (TN e env) (λq ai=>Sm (md S) A (spliced<|Ww pos<|UY es' env) (λvs aX=>Q (q::vs) aX) E ai) E s) (λi h1 c2=> ?_) h1 (λh1 c2=>eg he rm hs sx c2 h1 λq ai aj a1 a2 a3 a4 a5 a6=>rest a1 a2 a3 a4 a5<|.inl a6) c2;refine bG (λsv hl h=>bI (λu hf e=> ?_) h) h1;have eu:u=v:=R6 VJ e;have eh:H=H1:=R6 Xn e
  induction k' using SW with
  |zero=>exact bc c2
  |succ k'=>exact aZ (λx p cv=>jr (λu0 u1 u2 hd u3=>TK (FX hs sx.fr cv hl (eu▸hf) λq rq=>rest hs rfl rfl (.refl W) (eh▸sx) rq) hd) cv) c2
noncomputable def aF.ku(ℓ:aF):Bool:=aF.casesOn ℓ Sj Sj (λu0=>Sj) (λu0=>R8) (λu0=>Sj) (λu0 u1=>Sj) (λu0 u1 u2=>Sj) (λu0=>Sj) Sj
def AM(o:Sh aF):Sh aF:=Sl o Sd λℓ=>UI ℓ.ku Sd<|KX .out
def Wd.lend(W:Wd)(tp:SJ):Wd:={W with ah:=λb=>if b=tp then KX .tab else AM (W.ah b)}
section
theorem Wd.nj(h:W.ah a=Sd)(ne:a≠tp):(W.lend tp).ah a=none:=(SI ne).trans<|R6 AM h
theorem Wd.xp(h:W.ah a=KX ℓ)(ne:a≠tp):(W.lend tp).ah a=UI ℓ.ku Sd (KX .out):=(SI ne).trans<|R6 AM h
theorem Wd.zN(h:W.ah a=KX ℓ)(f:ℓ.ku=R8)(ne:a≠tp):(W.lend tp).ah a=none:=(Wd.xp h ne).trans<|R6 (λb=>UI b Sd<|KX aF.out) f
theorem Wd.vH(h:W.ah a=KX ℓ)(f:ℓ.ku=Sj)(ne:a≠tp):(W.lend tp).ah a=KX .out:=(Wd.xp h ne).trans<|R6 (λb=>UI b Sd<|KX aF.out) f
theorem Wd.rD{q:Sh aF}(ht:W.ah tp=KX .tab)(l:W.ah a=q)(n:q≠KX .tab):a≠tp:=λe=>n<|l.symm.trans ((R6 W.ah e).trans ht)
theorem Wd.Il(ht:W.ah tp=KX .tab):W.Fe (W.lend tp):=⟨λu0 u1 e u2=>e,λa o e l=>Wd.nj l (Wd.rD ht l λe=>nomatch e),λu0 u1=>rfl,SN _⟩
theorem yN:ℓ.ku=R8->ℓ.bC=true:=by
 induction ℓ using aF.casesOn<;>first|exact bc|exact λu0=>rfl
theorem Gr{i:Sf}:aF.nR i ℓ=R8->ℓ.ku=true:=by
 induction ℓ using aF.casesOn<;>first|exact bc|exact λu0=>rfl
end
theorem bV.lend{v:AV}{i:Sf}(ht:W.ah tp=KX .tab)(r:bV S W (.fs i) (λu0=> .fs i) q sv)(h:sv.frozen=KX v):RV S (W.lend tp) q v:=
 have fe:=⟨λu0 u1 e u2=>e,λa o e l=>Sl (motive:=λq=>W.ah a=q->(W.lend tp).ah a=Sd) (W.ah a) (λh=>Wd.nj h<|Wd.rD ht h λe=>nomatch e)
  (λℓ h=>Tb (motive:=λb=>aF.nR i ℓ=b->(W.lend tp).ah a=Sd) (aF.nR i ℓ) (λq=>au<|l.symm.trans (Wd.pa h q)) (λq=>Wd.zN h (Gr q)<|Wd.rD ht h λe=>V6<|q.symm.trans (R6 (aF.nR i)<|R9 e)) rfl) rfl,λu0 u1=>rfl,SN _⟩
 RV.bE fe (r.frozen h (Sz rfl) λu0=>Sz rfl)
theorem yI{t:R5 AV->Sq}(ht:∀l us,t l=R8->aA S W us l->aA S {W with N:=0} us l){a:AV}(h:qg a t=R8)(r:RV S W q a):RV S {W with N:=0} q a:=
 AV.dG (λl h r=>r.gy λax vs n a b c=> .tup a b<|ht l vs h c) h (λh=>
  AV.dH (λl h r=>r.kY λax vs n a b c=> .lst a b<|ht l vs h c) h λh=>
   AV.kP (P:=λa=>RV S W q a->RV S {W with N:=0} q a) (λu0 r=>r) h λh=>AV.gM (λu0 u1 r=>r) h λh=>AV.dw (λu0 u1 r=>r) h λh=>AV.i9 (λu0 u1 r=>r) h λh=>bc h) r
theorem Oa(d:Sf):∀l us,DT d l=R8->aA S W us l->aA S {W with N:=0} us l:=by
 induction d with
 |zero=>exact λu0 u1 h=>bc h
 |succ d ih=>
  intro l
  induction l with
  |nil=>exact λu0 u1 r=>r
  |cons x l ihl=>exact λus h r=>ae (λa b=>r.aU λv us r1 r2=>aA.cons (yI ih a r1)<|ihl us b r2) h
theorem RV.Q0{d:Sf}{v:AV}(h:AV.noRef d v=R8)(r:RV S W q v):RV S {W with N:=0} q v:=yI (Oa d) h r
theorem pI.lend(ht:W.ah tp=KX .tab):∀{us:R5 Se},pI S W us vs->vs.all (AV.noRef 8)=R8->aA S {W.lend tp with N:=0} us vs:=by
 induction vs with
 |nil=>exact λr O=>r
 |cons v vs ih=>exact λr h=>ae (λh1 h2=>aG.casesOn r λa b=>aA.cons (RV.Q0 h1<|a.elim (λa=>a.bE<|Wd.Il ht) λa=>a.elim λi a=>a.elim λsv a=>a.1.lend ht a.2)<|ih b h2) h
theorem Iz{a:AV}(h:atom a=R8)(r:RV S W q a):RV S W' q a:=
 AV.kP (P:=λa=>RV S W q a->RV S W' q a) (λu0 r=>r) h (λh=>AV.gM (λu0 u1 r=>r) h λh=>AV.dw (λu0 u1 r=>r) h λh=>AV.i9 (λu0 u1 r=>r) h λh=>bc h) r
theorem aA.atoms:∀{us:R5 Se},Mine.atoms l=R8->aA S W us l->aA S W' us l:=by
 induction l with
 |nil=>exact λu0 r=>r
 |cons x l ih=>exact λh r=>ae (λa b=>r.aU λv us r1 r2=>aA.cons (Iz a r1)<|ih b r2) h
noncomputable def Wd.fK(W W':Wd):Wd:={W with h:=W'.h,ah:=λb=>if(W.h.get? b).isSome then W.ah b else(W'.ah b).map λu0=> .out}
section
theorem Wd.lK(e:W.h.get? a=KX o):(W.fK W').ah a=W.ah a:=Sv<|e▸rfl
theorem Wd.BN(e:W.h.get? a=Sd)(l:W'.ah a=Sd):(W.fK W').ah a=none:=(SI<|e▸SR).trans<|R6 (Uo _) l
theorem CM(f:Wd.Fk {W.lend tp with N:=0} W')(ne:a≠tp)(e:W.h.get? a=KX o):W'.h.get? a=KX o:=
 Sl (motive:=λq=>W.ah a=q->W'.h.get? a=KX o) (W.ah a) (λl=>f.keep a o e<|Wd.nj l ne)
  (λℓ l=>Tb (motive:=λb=>ℓ.ku=b->W'.h.get? a=KX o) ℓ.ku (λc=>f.outk a o e<|Wd.vH l c ne) (λc=>f.keep a o e<|Wd.zN l c ne) rfl) rfl
theorem BB(ht:W.ah tp=KX .tab)(f:Wd.Fk {W.lend tp with N:=0} W'):W.Fk (W.fK W')/\W.Kp (·≠ .tab) (W.fK W'):=
 have kp:∀{a o q},W.h.get? a=KX o->W.ah a=q->q≠KX .tab->W'.h.get? a=KX o:=λe l n=>CM f (Wd.rD ht l n) e;have old:∀{a o q},W.h.get? a=KX o->W.ah a=q->(W.fK W').ah a=q:=λe l=>(Wd.lK e).trans l;have fe:=⟨λu0 u1 e l=>kp e l (λe=>nomatch e),λu0 u1 e l=>old e l,λu0 u1=>rfl,SN _⟩
 ⟨⟨⟨⟨fe,λu0 u1 e l=>old e l,λu0 u1 e l=>kp e l<|λe=>nomatch e⟩,λu0 u1 u2 u3 e l=> .same (kp e l<|λe=>nomatch e)<|old e l⟩,λu0 u1 ℓ p e l=>⟨kp e l (λq=>nomatch p.symm.trans (R6 aF.bC<|R9 q)),old e l⟩⟩,fe,λu0 u1 ℓ p e l=>⟨kp e l λq=>p<|R9 q,old e l⟩⟩
end
theorem HQ(hs:s.heap=W.h)(sx:St S T W env ks loc H'){vs:R5 Se}(a:W.h.get? ax=KX (aE vs j))(b:W.hide.ah ax=Sd\/W.hide.ah ax=KX .out)(c:aA S W vs xs)
  (g:rW S T env ks loc H' tg xs s W G):Sm (md S) A (WJ<|.ref ax) G E s:=by
 have kp:∀(x:Xl) b o,W.h.get? b=KX o->(s.heap.push x).get? b=KX o:=λx b o e=>bZ b o<|hs▸e;have fr:W.h.get? s.heap.objs.size=none:=hs▸bz (SN _);have ne:ax≠s.heap.objs.size:=λe=>oA<|a.symm.trans ((R6 (λb=>W.h.get? b) e).trans fr);have mv:=Wd.lW<|kp {cls:=.type "list_iterator",data:=.fields #[.ref ax,.int 0 0]};have pz:=SD s.heap (o:={cls:=.type "list_iterator",data:=.fields #[.ref ax,.int 0 0]}) rfl;have lI:(W.jI<|s.heap.push {cls:=.type "list_iterator",data:=.fields #[.ref ax,.int 0 0]}).hide.ah s.heap.objs.size=KX .out:=R6 di<|Wd.fy fr;have hax:∃o,(s.heap.push {cls:=.type "list_iterator",data:=.fields #[.ref ax,.int 0 0]}).get? ax=KX o/\((W.jI<|s.heap.push {cls:=.type "list_iterator",data:=.fields #[.ref ax,.int 0 0]}).hide.ah ax=Sd\/(W.jI<|s.heap.push {cls:=.type "list_iterator",data:=.fields #[.ref ax,.int 0 0]}).hide.ah ax=KX .out):=
  ⟨_,kp _ _ _ a,b.imp ((R6 di<|Wd.jq a).trans ·) ((R6 di<|Wd.jq a).trans ·)⟩;exact YE (d7<|hs▸a) (g _ _ _ _ {s with heap:=s.heap.push {cls:=.type "list_iterator",data:=.fields #[.ref ax,.int 0 0]}} (W.jI _) rfl rfl rfl (mv.fk id (λu0=>id) λu0 u1=>id) (sx.mv mv λu0=>id) (vM S tg ne vs xs c.length)
  ⟨Ui _,⟨⟨_,pz,rfl,rfl⟩,⟨_,kp _ _ _ a,rfl,j,rfl⟩⟩,λb' hb=>(List.mem_cons.mp hb).elim (λq=>⟨_,q▸pz,.inr<|q▸lI⟩) λhb=>List.mem_singleton.mp hb▸hax,lI,c.mono<|(mv.le id).trans (Wd.sq _).go.toLe⟩
  (wV fr) (bk<|kp _))
theorem Nj(st:bU S T P tb)(he:bH S T tb r n)(hf:pj S T r n)(rm:aN A n)(hs:s.heap=W.h)(sx:St S T W env ks loc H){gi:Sf}{l:R5 ME}(c:ir tb k ks (.cb gi l) e=R8)(h:abw P r (.cb gi l) loc H=KX (xs,H'))
  (g:∀ai aj,ai.heap=aj.h->ai.gens=s.gens->ai.os=s.os->W.Fk aj->St S T aj env ks loc H'->rW S T env ks loc H' tg xs ai aj G):
  Sm (md S) A (TN e env) (λx ai=>Sm (md S) A (WJ x) G E ai) E s:=by
 revert c
 induction k using SW with
 |zero=>exact bc
 |succ k=>
 refine jQ λx p es pos=>ae λcg ca=> ?_;refine bG (λw hg h=> ?_) h;refine AV.qZ (λf h hg=> ?_) h (λh O=>au h) hg;refine aC (λvs H1 h1 h=>aR (λhn h=>aC (λv H2 h2 h=> ?_) h) h) h;refine AV.dH (λl' h h2=> ?_) h (λh O=>au h) h2
 induction H2 using Sp with|cons _ _=>exact au h|nil=> ?_
 refine aR (λha h=> ?_) h;have g:=(R6 (λp:R5 AV×Hp=>∀ai aj,ai.heap=aj.h->ai.gens=s.gens->ai.os=s.os->W.Fk aj->St S T aj env ks loc p.2->rW S T env ks loc p.2 tg p.1 ai aj G)<|R9 h).mpr g;have key:∀us ai aj,ai.heap=aj.h->ai.gens=s.gens->ai.os=s.os->W.Fk aj->St S T aj env ks loc H1->pI S aj us vs->
   T.K.In ai.heap/\Sm (md S) A (Wv (S.bK f)<|[]++us) (λx ai=>Sm (md S) A (WJ x) G E ai) E ai:=by
  intro us ai aj a1 a2 a3 a4 a5 a6;have ht:=a5.ok.tab;have okc:dU S T {aj.lend T.tp with N:=0}:=⟨λa o e ne=>⟨(a5.ok.base a o e ne).1,Wd.nj (a5.ok.base a o e ne).2 ne⟩,Sv rfl,a5.ok.tB,a5.ok.tc⟩;refine ⟨a1▸a5.ok.iq st,UL<|hf (W:={aj.lend T.tp with N:=0}) rm a1 okc ⟨rfl,λn e he=>au he⟩ (a6.lend ht hn) h2 λq aX aT b1 b2 b3 b4 b5=> ?_⟩;have f:=BB ht b5.1;have rq:=b5.2.2.2;refine rq.kY λax us j q1 q2 q3=> ?_;have okx:dU S T (aj.fK aT):=⟨λa o e ne=>have q:=a5.ok.base a o e ne;⟨f.1.keep _ _ q.1 q.2,f.1.free _ _ q.1 q.2⟩,a5.ok.tB.elim λu0 t=>(Wd.lK t.1.2).trans ht,b5.2.1.tB,b5.2.1.tc⟩;have sx2:St S T (aj.fK aT) env ks loc H1:=⟨okx,a5.hr.kp f.2 rfl λn ℓ h e=>(R6 (aF.ofEntry n) e).mp h,a5.fr.kp f.1.kp⟩;have ntp:ax≠T.tp:=λq=>au<|q2.symm.trans ((R6 aT.ah q).trans b5.2.1.tab);have lx:=
   Sl (motive:=λq=>aj.h.get? ax=q->di ((aj.fK aT).ah ax)=Sd\/di ((aj.fK aT).ah ax)=KX .out) (aj.h.get? ax) (λe=> .inl<|R6 di<|Wd.BN e q2)
    (λo e=>Sl (motive:=λq=>aj.ah ax=q->di ((aj.fK aT).ah ax)=Sd\/di ((aj.fK aT).ah ax)=KX .out) (aj.ah ax) (λl=> .inl<|R6 di<|(Wd.lK e).trans l)
     (λℓ l=>Tb (motive:=λb=>ℓ.ku=b->di ((aj.fK aT).ah ax)=Sd\/di ((aj.fK aT).ah ax)=KX .out) ℓ.ku (λc=>au<|q2.symm.trans (b5.1.out ax o e<|Wd.vH l c ntp)) (λc=> .inr<|(R6 di<|(Wd.lK e).trans l).trans<|nN<|yN c) rfl) rfl) rfl;exact HQ (W:=aj.fK aT) b1 sx2 q1 lx (q3.atoms (Bool.and_eq_true_iff.mp ha).1)<|g aX (aj.fK aT) b1 (b2.trans a2) (b3.trans a3) (a4.trans f.1) sx2
 refine Th<|qy (st:=st) hs sx.ok sx.fr cg hg λq rq=>rq.GQ<|(sd (st.xw f).1).run (gP ca) ?_
 induction l using Sp with
 |nil=>exact fN (have q:=R6 (λp:R5 AV×Hp=>St S T W env ks loc p.2/\pI S W [] p.1) (R9 h1);have q:=q.mp ⟨sx,rfl⟩;ZS (key [] s W hs rfl rfl (.refl W) q.1 q.2)) ca
 |cons m l=>
  have kk:=PV (pos:=pos) (E:=E) he ca rm hs sx h1 λus ai aj a1 a2 a3 a4 a5=>key us ai aj a1 a2 a3 a4 a5.1 a5.2
  revert kk;refine dQ (λk' e es O oe u1 u2 kk=> ?_) ca;rw[eI oe] at kk⊢;exact UB kk
theorem Du(st:bU S T P tb)(hz:rh S T)(he:bH S T tb r n)(hf:pj S T r n):qS S T P tb r n:=by
 intro k ks src e tg A s W env loc H H' xs G E c ht rm hs sx h g
 by_cases hc:oP src=R8
 ·exact ro st hz he rm hs sx c ht hc h λai aj a1 a2 a3 a4 a5=>(g ai aj a1 a2 a3 a4 a5).g
 ·induction src using Src.casesOn<;>first|exact TL rfl hc|exact Nj st he hf rm hs sx c h g
end
section
variable{v:AV}
theorem tF(st:bU S T P tb)(hs:s.heap=W.h)(sx:St S T W env ks loc H){o m x:Sf}{y a:SS}(cv:cA ks o y=R8)(hl:loc[o]? =KX (.fr<|.ref m))(hy:tb.nm[x]? =KX a)(h:cK P H m x=KX sv)
  (g:∀q,iH S W m x q->bV S W (.ha m x) (.hk m x) q sv->∀tk,Q q {s with toks:=tk}):Sm (md S) A (TN (.Attribute (.Name y p1) a p2) env) Q E s:=by refine(o7 h).elim λc e=>e.elim λl e=> ?_;rw[Yp,qX _ _ _ rfl];refine jr (λu0 u1 u2 hd u3=>R7<|TK (eR hs sx.fr cv hl λq rq=>R7<|TU ?_) hd) cv;refine rq.nI λu0=> ?_;exact R7<|SY<|get_own st hs sx.ok sx.hr e.1 e.2.1 e.2.2 hy (λq r=>r.hand st) λq at' rq tk=>R7<|XR<|Sg<|g q at' rq tk
inductive pY(kv:AV)(sv:SV)(o:Sh AV):Prop
 |T (l:R5 (R5 AV×AV)) (key:R5 AV):sv=.mT l->kv=.tup key->AV.key 4 (.tup key)=R8->o=bX key l->pY kv sv o
 |I (l:R5 (SK×AV)) (key:SK):sv=.mI l->kv=.int key->o=ez key l->pY kv sv o
theorem Hj(st:bU S T P tb)(he:bH S T tb r n)(rm:aN A n)(hs:s.heap=W.h)(sx:St S T W env ks loc H){o m x:Sf}{l:SE}{y a:SS}{kv:AV}{ov:Sh AV}(cv:cA ks o y=R8)(hy:tb.nm[x]? =KX a)(ck:aK tb k ks kk l=R8)
  (h1:r.e kk loc H=KX (kv,H')) (hl:loc[o]? =KX (.fr<|.ref m)) (hm:cK P H' m x=KX sv) (hb:pY kv sv ov)
  (g:EG S T env ks loc H' (.bool<|ov.isSome !=neg) s W Q):Sm (md S) A (TN (.Compare l [if neg then .NotIn else .In] [.Attribute (.Name y p1) a p2] p) env) Q E s:=by
 refine wpAny_Compare1 (eg he rm hs sx ck h1 λq ai aj a1 a2 a3 a4 a5 a6=>tF st a1 a5 cv hl hy hm λqa at1 rq tk=> ?_)<|kR rfl;have G:=(g.after a2 a3 a4);refine pY.casesOn hb (λl key e1 e2 hk e3=> ?_) λl key e1 e2 e3=> ?_
 ·subst e1 e2 e3
  exact rq.yC λad es j r1 r2 r3 r4 r5=>yx a1 rm.nH a6 hk r2 r3 r4 r5<|G.same a1 a5 .bool
 ·subst e1 e2 e3
  exact rq.zC λad es j r1 r2 r3 r4 r5=>a6.eS λt=>Cs a1 r2 r3 r4 r5<|G.same a1 a5 .bool
theorem D0(st:bU S T P tb)(he:bH S T tb r n)(rm:aN A n)(hs:s.heap=W.h)(sx:St S T W env ks loc H){o m x:Sf}{sl:SE}{y a:SS}{kv:AV}(cv:cA ks o y=R8)(hy:tb.nm[x]? =KX a)(os:du sl=R8)(ck:aK tb k ks kk sl=R8)
  (hl:loc[o]? =KX (.fr<|.ref m)) (h0:cK P H m x=KX sv0) (h1:r.e kk loc H=KX (kv,H')) (hm:cK P H' m x=KX sv) (hb:pY kv sv (KX v))
  (g:EG S T env ks loc H' v s W Q):Sm (md S) A (TN (.Subscript (.Attribute (.Name y p1) a p2) sl p) env) Q E s:=by
 refine Yq<|tF st hs sx cv hl hy h0 λqa at0 O tk=>eg he rm hs sx ck h1 λq ai aj a1 a2 a3 a4 a5 a6=>(o7 hm).elim λc d=>d.elim λll d=> ?_;have G:=(g.after a2 a3 a4);have rq:=(at0.go a4.toGo).sl st a5.hr d.1 d.2.1;refine pY.casesOn hb (λl key e1 e2 hk e=> ?_) λl key e1 e2 e=> ?_
 ·subst e1 e2
  refine rq.yC λad es j r1 r2 r3 r4 r5=> ?_;have r2':=a1▸r2;exact YF ⟨_,r2',rfl⟩ slot_dict_getitem.lookup (Ar a1 rm.nH a6 hk r2 r3 r4 e.symm λq rv=>G.same a1 a5 rv)<|nZ _ _ os
 ·subst e1 e2
  refine rq.zC λad es j r1 r2 r3 r4 r5=> ?_;have r2':=a1▸r2;refine a6.eS λt=> ?_;exact YF ⟨_,r2',rfl⟩ slot_dict_getitem.lookup (Ap a1 r2 r3 r4 e.symm λq rv=>G.same a1 a5 rv)<|nZ _ _ os
theorem Ms(st:bU S T P tb)(hs:s.heap=W.h)(sx:St S T W env ks loc H){o m x:Sf}{f y a:SS}(cn:eP ks f=R8)(m1:T.mg f=Sd)(m2:T.mb f=KX (vm .len))(cv:cA ks o y=R8)(hy:tb.nm[x]? =KX a)
  (hl:loc[o]? =KX (.fr<|.ref m)) (hm:cK P H m x=KX (.ml l)) (z:aw l.length=R8) (g:EG S T env ks loc H (.int l.length) s W Q):Sm (md S) A (TN (.Call (.Name f p0) [.Attribute (.Name y p1) a p2] [] pos) env) Q E s:=by refine Th<|kM (st:=st) hs sx.ok sx.fr cn m1 m2 ?_;refine(AY .len).run rfl (UB<|Tc<|tF st hs sx cv hl hy hm λqa at0 rq tk=>To ⟨trivial,?_⟩);refine rq.wO λad us j r1 r2 r3=> ?_;have e:=List.size_toArray.trans r3.length;exact Yr (d7<|hs▸r2) (by rw[e];exact Vp (Int.ofNat_lt.mpr<|cJ z) (by decide))<|e.symm▸(g.same hs sx .int) _ rfl rfl rfl
end
section
theorem rV{it l:SJ}{i:Sf}{items}(hh:A.handled=Sd)
  (hit:s.heap.IsTupleIter it l i) (hl:s.heap.IsTuple l items) (hx:items[i]? =Sd)
  (hE:∀h' e,Heap.ExtBut it s.heap h'->(∃o,h'.get? e=KX o/\o.cls=.type "StopIteration")->E (.ref e) {s with heap:=h'}):
  Sm (Tj prog w) A (aaE<|.ref it) Q E s:=by
 obtain ⟨o,ho,hc,hd⟩:=id hit;obtain ⟨ol,hol,_,nl,hdl⟩:=hl;refine R7 (VW hit.typeIs XH
  (Uw XH hit.typeIs PySem.F.entry_tuple_iterator_next ?_<|PySem.F.args_tuple_iterator_next_1 _));show Sm _ _ (field (.ref it) 0>>=_) _ _ s;refine R7<|Vs ho hd rfl ?_;refine bM (SR) ?_;refine R7<|Vs ho hd rfl ?_;refine R7<|XQ hol hdl ?_;simp only[UE,hx];refine R7<|Uz<|R7<|wpAny_setField ho hd (Tn _) ?_;refine R7 ?_;refine R7<|UG ?_ (by size_fits);refine R7<|aaF (by first|rfl|(simp only[firstArgMember];rfl)) ?_;refine UG ?_ (by size_fits);refine R7<|wpAny_handled ?_
 first|rw[show A.in1.handled=Sd from hh]|rw[hh]
 refine R7<|Sg<|wpAny_throw ?_;exact hE _ _ (((VV ..).extBut.push _).push _) ⟨_,SD _ rfl,rfl⟩
noncomputable abbrev Ff(h:Tu)(l1:SJ):Heap:=h.push {cls:=.type "tuple_iterator",data:=.fields #[.ref l1,.int 0 0]}
abbrev BZ(h:Tu)(l1 l2:SJ):Heap:=(Ff h l1).push {cls:=.type "tuple_iterator",data:=.fields #[.ref l2,.int 0 0]}
abbrev E4(h:Tu)(l1 l2:SJ):Heap:=(BZ h l1 l2).push {cls:=.type "tuple",data:=.seq #[.ref h.objs.size,.ref (Ff h l1).objs.size]}
abbrev A7(h:Tu)(l1 l2:SJ):Heap:=(E4 h l1 l2).push {cls:=.type "tuple",data:=.seq #[.none,.none]}
abbrev Bs(h:Tu)(l1 l2:SJ):Heap:=(A7 h l1 l2).push {cls:=.type "zip",data:=.fields #[.none,.bool Sj,.bool Sj,.ref (BZ h l1 l2).objs.size,.ref (E4 h l1 l2).objs.size]}
theorem w3(l1 l2:SJ)(xs ys:Td Se):
  Meets (VN.«zip.__new__» ⟨[.type "zip",.ref l1,.ref l2],[]⟩) (λu0 R s=>s.heap.IsTuple l1 xs/\s.heap.IsTuple l2 ys/\
   R (.ok<|.ret<|.ref (A7 s.heap l1 l2).objs.size) {s with heap:=Bs s.heap l1 l2}):=
 .of_wp λprog w A R s h=>by
  obtain ⟨hp,g,d,tk,os⟩:=s;obtain ⟨hl1,hl2,h⟩:=h;have hsub:=sub_zip;have hL1:=hl1;have hL2:Heap.IsTuple (Shared.heap ⟨hp.push {cls:=.type "tuple_iterator",data:=.fields #[.ref l1,.int 0 0]},g,d,tk,os⟩) l2 ys:=Heap.IsTuple.push hl2 _
  wp_walk using Yk hL1,Yk hL2
  exact ⟨_,rfl,h⟩
theorem zH{l2:SJ}{xs ys:Td Se}(hl1:s.heap.IsTuple l1 xs)(hl2:s.heap.IsTuple l2 ys)
  (h:∀h',IsZip h' (s.heap.objs.size+4) (s.heap.objs.size+2) (s.heap.objs.size+3) .none->abt h' (s.heap.objs.size+2) (.ref s.heap.objs.size) (.ref<|s.heap.objs.size+1)->
   h'.IsTupleIter s.heap.objs.size l1 0->(∀c o,s.heap.get? c=KX o->h'.get? c=KX o)->Q (.ref<|s.heap.objs.size+4) {s with heap:=h'}):
  Sm (Tj prog w) A (Wv (.type "zip") [.ref l1,.ref l2]) Q E s:=by
 refine aai PySem.F.called_zip (by decide) (PySem.F.typeCall_zip_2 _ _) (PySem.F.newCall_zip_2 _ _) (λobj=>PySem.F.args_object_init_3 obj _ _) PySem.F.entry_zip_new
  (w3 l1 l2 xs ys) ⟨hl1,hl2,?_⟩;have z1:(Ff s.heap l1).objs.size=s.heap.objs.size+1:=T9 ..;have z2:(BZ s.heap l1 l2).objs.size=s.heap.objs.size+2:=by rw[T9,z1]
 have z3:(E4 s.heap l1 l2).objs.size=s.heap.objs.size+3:=by rw[T9,z2]
 have z4:(A7 s.heap l1 l2).objs.size=s.heap.objs.size+4:=by rw[T9,z3]
 have g5:(Bs s.heap l1 l2).get? (A7 s.heap l1 l2).objs.size=KX _:=SD _ rfl;have g3:(Bs s.heap l1 l2).get? (BZ s.heap l1 l2).objs.size=KX _:=Su _<|Su _<|SD _ rfl;have g1:(Bs s.heap l1 l2).get? s.heap.objs.size=KX _:=Su _<|Su _<|Su _<|Su _<|SD _ rfl;rw[z2,z3,z4] at g5;rw[z1,z2] at g3;rw[z4];refine ⟨⟨_,g5,rfl⟩,h _ g5 g3 ⟨_,g1,rfl,rfl⟩ λc o e=> ?_⟩;exact Su _<|Su _<|Su _<|Su _<|Su _ e
theorem yS{z:SJ}{xs:Td Se}{Q:Fin->Sn->Prop}(hh:A.handled=Sd)(h1z:i1≠z)(h1l:l1≠z)
  (hz:IsZip s.heap z TI TO .none) (hTI:abt s.heap TI (.ref i1) (.ref i2)) (h1:s.heap.IsTupleIter i1 l1 k1) (hl1:s.heap.IsTuple l1 xs) (hend:xs[k1]? =Sd)
  (hE:∀h' e,(∀c o,c≠z->c≠i1->s.heap.get? c=KX o->h'.get? c=KX o)->(∃o,h'.get? e=KX o/\o.cls=.type "StopIteration")->E (.ref e) {s with heap:=h'}):
  Sm (Tj prog w) A (VN.«zip.__next__» ⟨[.ref z],[]⟩) Q E s:=by
 show Sm _ _ (field (.ref z) 2>>=_) _ _ _;refine R7<|Vs hz rfl rfl ?_;refine R7<|Vs hz rfl rfl ?_;refine R7<|XQ hTI rfl ?_;refine R7 ?_;refine R7<|Vs hz rfl rfl (Sg ?_);refine R7<|Uz ?_;refine R7<|Vs hz rfl rfl ?_;refine R7 (abh hz (VR _) λjV B6 B7=> ?_)
 replace B6:IsZip jV z TI TO .ellipsis:=B6
 refine R7 ?_;rw[aaC,aaC,List.zipIdx_nil,Xb];refine R7<|R7<|wpAny_onRaise ?_;obtain ⟨ol,hol,rl⟩:=hl1;refine R7<|rV hh (h1.extBut B7.extBut h1z) ⟨ol,B7.extBut _ _ h1l hol,rl⟩ hend λvc e HK he=> ?_;obtain ⟨oe,hoe,hce⟩:=he;have HL:=HK _ _ h1z.symm B6;have hez:e≠z:=λx=>by subst x;rw[HL] at hoe;obtain rfl:=R9 hoe;simp at hce
 refine abh HL (VR _) λQC O HM=>hE QC e (λc o c1 c3 x=>HM.extBut _ _ c1<|HK _ _ c3<|B7.extBut _ _ c1 x) ⟨oe,HM.extBut _ _ hez hoe,hce⟩
theorem vD{z:SJ}{xs:Td Se}{Q:Sh Se->Sn->Prop}(hh:A.handled=Sd)(h1z:i1≠z)(h1l:l1≠z)
  (hz:IsZip s.heap z TI TO .none) (hTI:abt s.heap TI (.ref i1) (.ref i2)) (h1:s.heap.IsTupleIter i1 l1 k1) (hl1:s.heap.IsTuple l1 xs) (hend:xs[k1]? =Sd)
  (hQ:∀h',(∀c o,c≠z->c≠i1->s.heap.get? c=KX o->h'.get? c=KX o)->Q Sd {s with heap:=h'}):Sm (Tj prog w) A (aab<|.ref z) Q E s:=by
 have hT:s.TypeIs (.ref z) "zip":=⟨_,hz,rfl⟩;refine R7<|wpAny_attempt (VW hT Zc
  (Uw Zc hT PySem.F.entry_zip_next (yS hh h1z h1l hz hTI h1 hl1 hend λh' e hk he=> ?_)<|PySem.F.args_zip_next_1 _));obtain ⟨o,ho,hc⟩:=he;refine R7<|UW ⟨o,ho,hc⟩ isSubtype_stop ?_;exact Sg<|hQ _ hk
end
section
theorem pT:Wh (.type "zip") "__getattr__"=pure none:=by rw[T4,Ti];kernel_rfl
theorem r8:Wh (.type "zip") "keys"=pure none:=by rw[T4,Ti];kernel_rfl
theorem lR:YH table "zip.__getattribute__"=KX VN.«object.__getattribute__»:=
 entryFor_alias (id':="object.__getattribute__") (by kernel_rfl) (by decide+kernel) (by decide+kernel) (by kernel_rfl)
theorem uD(a:SJ)(xs:Td Se)(sl:Td (Sh Se))(name:SS)(u:Tok)(hmiss:Wh (.type "zip") name=pure Sd)(hname:(["__module__","__name__","__qualname__","__doc__","__annotations__"]:R5 SS).contains name=Sj)(hsz:name.length+100<=UZ):
  Meets (VN.«object.__getattribute__» ⟨[.ref a,.str name u],[]⟩) (λA R s=>s.heap.get? a=KX {cls:=.type "zip",dict:=Sd,data:=.fields xs,slots:=sl}/\raisesAttr (.ref a) name A R s):=
 Meets.of_wp λprog w A R s hs=>by
  obtain ⟨hp,g,d,tk,os⟩:=s;obtain ⟨hx,hs⟩:=hs
  repeat (any_goals (first|assumption|wp_step))
  refine bM (by rw[hname];exact SR) ?_
  repeat (any_goals (first|assumption|wp_step))
  exact wpAny_raiseAttrError hs.1 hs.2<|attrMsg_fits (by decide+kernel) hsz
theorem yM{z:SJ}{xs:Td Se}{sl:Td (Sh Se)}{Q:Sh Se->Sn->Prop}(hx:s.heap.get? z=KX {cls:=.type "zip",dict:=Sd,data:=.fields xs,slots:=sl})(hA:A.handled=Sd)
  (h:∀h' tk,(∀b o,s.heap.get? b=KX o->h'.get? b=KX o)->Q Sd {s with heap:=h',toks:=tk}):Sm (Tj prog w) A (getAttr? (.ref z) "keys") Q E s:=by
 obtain ⟨hp,g,d,tk,os⟩:=s;have hT:∀tk',(⟨hp,g,d,tk',os⟩:Sn).TypeIs (.ref z) "zip":=λu0=>⟨_,hx,rfl⟩;have f1:=sub_AttributeError;have f3:=PySem.F.slot_zip_getattribute.lookup;have f4:=PySem.F.slot_zip_getattribute.bind<|.ref z;have f5:=pT
 repeat (any_goals (first|assumption|exact hT _|((with_reducible show Sm _ _ (Wv (V4 "zip.__getattribute__") _ _) _ _ _);refine VP PySem.F.slot_zip_getattribute (hT _) lR (PySem.F.args_zip_getattribute_2 _ _) (uD z xs sl _ _ r8 (by decide) (by size_fits)) ⟨hx,hA,λh' tk' e hx'=> ?_⟩)|wp_step))
 obtain ⟨t',u',he⟩:=hx'.there;unfold getattributeRaised
 repeat (any_goals (first|assumption|wp_step))
 exact h _ _ hx'.keeps
theorem ue:YH table "dict.update.loop"=KX VN.«dict.update.loop»:=Wj (by kernel_rfl)
theorem B0{z:SJ}{xs:Td Se}(hh:A.handled=Sd)(h1z:i1≠z)(h1l:l1≠z)
  (hz:IsZip s.heap z TI TO .none) (hTI:abt s.heap TI (.ref i1) (.ref i2)) (h1:s.heap.IsTupleIter i1 l1 k1) (hl1:s.heap.IsTuple l1 xs) (hend:xs[k1]? =Sd)
  (hQ:∀h' tk d o,(∀c o,c≠z->c≠i1->s.heap.get? c=KX o->h'.get? c=KX o)->s.heap.get? d=Sd->h'.get? d=KX o->Q (.ref d) {s with heap:=h',toks:=tk}):
  Sm (Tj prog w) A (Wv (.type "dict") [.ref z]) Q E s:=by
 have kp:∀b o,s.heap.get? b=KX o->(s.heap.push {cls:=.type "dict",data:=.dict #[]}).get? b=KX o:=λb o e=>Su _ e;refine callType_codes (Q₁:=λobj ai=>obj=.ref s.heap.objs.size/\ai={s with heap:=s.heap.push {cls:=.type "dict",data:=.dict #[]}}) PySem.F.kt_called_dict (PySem.F.kt_typeCall_dict_1 _) PySem.F.entry_dict_init (kt_code_dict_new _ ⟨rfl,rfl⟩) ?_
 rintro obj ai ⟨rfl,rfl⟩
 have hD:(s.heap.push {cls:=.type "dict",data:=.dict #[]}).get? s.heap.objs.size=KX {cls:=.type "dict",data:=.dict #[]}:=SD _ rfl;refine ⟨⟨_,hD,rfl⟩,PySem.F.args_dict_init_2 _ _,?_⟩;refine R7 ?_;refine R7<|wpAny_notOrdered_dict ⟨_,hD,rfl⟩ ?_;refine Sg ?_;show Sm _ _ (Builtin.Dict.updateFrom "dict.__init__" s.heap.objs.size (.ref z) [] .none) _ _ _;have hz':=kp _ _ hz;refine R7<|WB ⟨_,hz',rfl⟩ ?_;rw[Sv (by decide)];refine R7<|yM hz' hh λh' tk k2=> ?_;refine gc rfl ?_;refine R7<|Uz ?_;have kk:=λb o e=>k2 b o<|kp b o e;refine R7<|YW (kk _ _ hz) ?_;refine Sg ⟨XO _ (by decide+kernel),Zi ue ?_⟩;obtain ⟨o1,e1,r1⟩:=h1;obtain ⟨o2,e2,r2⟩:=hl1;refine R7<|vD hh h1z h1l (kk _ _ hz) (kk _ _ hTI) ⟨o1,kk _ _ e1,r1⟩ ⟨o2,kk _ _ e2,r2⟩ hend λh'' k3=> ?_;have fz:∀{b o},s.heap.get? b=KX o->s.heap.objs.size≠b:=λe=>Ya<|TR e;refine R7<|Sg<|Sg ⟨rfl,hQ h'' tk s.heap.objs.size _ (λc o c1 c2 e=>k3 c o c1 c2<|kk c o e) ?_<|k3 _ _ (fz hz) (fz e1)<|k2 _ _ hD⟩
 cases e:s.heap.get? s.heap.objs.size with
 |none=>rfl
 |some o=>exact TL (TR e)<|XN _
end
structure JZ(z TI TO i1 i2 l1:SJ)(i:Sf)(W:Wd):Prop where
 i0:i=0
 zz:IsZip W.h z TI TO .none
 p:abt W.h TI (.ref i1) (.ref i2)
 it:W.h.IsTupleIter i1 l1 0
 tu:W.h.IsTuple l1 #[]
 lz:W.ah z=KX .out
 li:W.ah i1=KX .out
 lT:W.ah TI=KX .out
 ll:W.ah l1=Sd\/W.ah l1=KX .out
set_option tactic.hygienic true in
theorem Dy(S:bf)(tg:SE){z:SJ}(h1z:i1≠z)(h1l:l1≠z):Iter S tg (.ref z) [] [z,i1] (JZ z TI TO i1 i2 l1) (λu0 u1 u2=>Ue) where
 fR:=λj a ha=>(List.mem_cons.mp ha).elim (λq=>q▸⟨j.lz,_,j.zz,λv q=>nomatch q⟩) λha=>j.it.elim λo q=>Wd.jH.one j.li q.1 (λv z=>nomatch q.2.2.symm.trans z) a ha
 n6:=λj=>j.elim
 le:=λj le=>j.it.elim λo q=>j.tu.elim λo2 q2=>
  ⟨j.i0,le.outk _ _ j.zz j.lz,le.outk _ _ j.p j.lT,⟨o,le.outk _ _ q.1 j.li,q.2⟩,⟨o2,j.ll.elim (le.keep _ _ q2.1)<|le.outk _ _ q2.1,q2.2⟩,le.out _ _ j.zz j.lz,le.out _ _ q.1 j.li,le.out _ _ j.p j.lT,j.ll.imp (le.free _ _ q2.1)<|le.out _ _ q2.1⟩
 next:=fun{i A E Q s W} hh hs j _ hnone=>vD hh h1z h1l (hs▸j.zz) (hs▸j.p) (hs▸j.it) (hs▸j.tu) rfl λh' k=>
  hnone rfl {s with heap:=h'} (W.grow h') rfl rfl rfl (.grow λb o nb e=>k b o (λq=>nb<|q▸ .head _) (λq=>nb<|q▸ .tail _ (.head _))<|hs▸e)
 go:=λu0 j=>j.elim
 self:=λu0 hs j h=>YW (hs▸j.zz) h
section
variable{v:AV}
theorem wA(S:bf)(T:cU):rh S T:=by
 intro A s W env ks loc H' E p q tg G hh hs sx rp rq g;refine rp.gy λa us n a1 a2 a3=>rq.gy λb vs m b1 b2 b3=> ?_;have a1:=a3.bN (P:=λus=>W.h.get? a=KX (cE us n)->_) id a1;have b1:=b3.bN (P:=λus=>W.h.get? b=KX (cE us m)->_) id b1;refine zH (gp<|hs▸a1) (gp<|hs▸b1) λh' hz hTI h1 kp=> ?_;have kp:=hs▸kp;have mv:=Wd.lW kp;have f:∀{c:SJ},s.heap.objs.size<=c->W.h.get? c=none:=λh=>hs▸bz h;have n1:s.heap.objs.size≠s.heap.objs.size+4:=Tz<|VG (by decide);have n2:a≠s.heap.objs.size+4:=Tz<|Si (hs▸TR a1)<|S0 _ _;exact YW hz (g _ _ _ _ {s with heap:=h'} (W.jI h') rfl rfl rfl (mv.fk id (λu0=>id) λu0 u1=>id) (sx.mv mv λu0=>id) (Dy S tg n1 n2)
  ⟨rfl,hz,hTI,h1,⟨_,kp _ _ a1,rfl,n,rfl⟩,Wd.fy<|f<|S0 _ _,Wd.fy<|f<|SN _,Wd.fy<|f<|S0 _ _,.inl<|(Wd.jq a1).trans a2⟩ (λc hc=>(List.mem_cons.mp hc).elim (λq=>f<|q▸S0 _ _) λhc=>f<|List.mem_singleton.mp hc▸SN _) (bk kp) (Ui _))
theorem Qk(st:bU S T P tb)(he:bH S T tb r n)(rm:aN A n)(hs:s.heap=W.h)(sx:St S T W env ks loc H){a b:ME}{es:R5 SE}{f g:SS}{pos2:Vu}(hf:f=("dict":SS))(hg:g=("zip":SS))(cf:eP ks f=R8)(cg:eP ks g=R8)(cl:cP tb k ks [a,b] es=R8)
  (h1:r.e a loc H=KX (.tup [],H1)) (h2:r.e b loc H1=KX (.tup [],H')) (gl:EG S T env ks loc H' .lj s W Q):Sm (md S) A (TN (.Call (.Name f p1) [.Call (.Name g p2) es [] pos2] [] pos) env) Q E s:=by subst hf hg;have b1:=st.bx "dict" (.inr<|.inr<|.inr rfl);have b2:=st.bx "zip" (.inr<|.inr<|.inl rfl);refine Th<|kM (st:=st) hs sx.ok sx.fr cf b1.1 b1.2 ?_;refine(oG).run rfl (UB<|Tc (e:=.Call (.Name ("zip") p2) es [] pos2) ?_ rfl);refine Th<|kM (st:=st) hs sx.ok sx.fr cg b2.1 b2.2 ?_;refine callArgs (nQ he) oG rm hs sx cl (aq h1<|aq (aq h2<|aq rfl rfl) rfl) λus ai aj a1 a2 a3 a4 a5 a6=>⟨trivial,?_⟩;refine a6.aU λq1 us r1 a6=> ?_;refine a6.aU λq2 us r2 a6=> ?_;refine a6.bN ?_;refine r1.gy λl1 us1 n1 c1 c2 c3=> ?_;refine r2.gy λl2 us2 n2 d1 d2 d3=> ?_;have c1:=c3.bN (P:=λus=>aj.h.get? l1=KX (cE us n1)->_) id c1;have d1:=d3.bN (P:=λus=>aj.h.get? l2=KX (cE us n2)->_) id d1;refine zH (gp<|a1▸c1) (gp<|a1▸d1) λh' hz hTI hi kp=>To ⟨trivial,?_⟩;have m1:ai.heap.objs.size≠ai.heap.objs.size+4:=Tz<|VG (by decide);have m2:l1≠ai.heap.objs.size+4:=Tz<|Si (a1▸TR c1)<|S0 _ _;refine B0 rm.hd m1 m2 hz hTI hi ⟨_,kp _ _<|a1▸c1,rfl,n1,rfl⟩ rfl λh'' tk d o k2 fd gd=> ?_;have kk:=λb o e=>have e:=a1▸e;have lt:=TR e;k2 b o (Tz<|Si lt<|S0 _ _) (Tz lt) (kp b o e);have fd':=Option.eq_none_iff_forall_ne_some.mpr λo e=>oA<|(kp _ _ (a1▸e:ai.heap.get? d=KX o)).symm.trans fd;exact(((gl.after a2 a3 a4).grow a5 _).more kk rfl rfl (.lj gd<|Wd.d6 fd'))
end
theorem Hg{a n k c L:Sf}(hk:1<=k)(h:a+k*(n+1)+c<L):a+1+k*n+c<L:=
 Sb (S6 (Ss (SA<|Uh a 1 _)<|S2 (Ss (SA<|VT 1<|k*n)<|S2 hk _) a) c) h
theorem aN.tc{vals:R5 Se}(r:aN A (n+1)):aN (A.under<|.builtin "type.__call__" ⟨.ref C::vals,[]⟩) n:=
 ⟨r.hd,by rw[depth_under_make];exact Hg (by decide) r.dep,by rw[units_under_make];exact Hg (by decide) r.un⟩
noncomputable def Wd.make(W:Wd)(h:Tu)(d x:SJ):Wd:={h:=h,ah:=λb=>if b=d then KX (.hd W.N) else if(W.h.get? b).isSome then W.ah b else Sd,ρ:=λm=>if m=W.N then x else W.ρ m,N:=W.N+1}
section
variable{h:Tu}{x:SJ}
theorem fresh_ne{b:SJ}(fd:W.h.get? d=Sd)(e:W.h.get? b=KX o):b≠d:=λq=>oA<|e.symm.trans ((R6 (λb=>W.h.get? b) q).trans fd)
theorem Wd.mn{b:SJ}(fd:W.h.get? d=Sd)(e:W.h.get? b=KX o):(W.make h d x).ah b=W.ah b:=(SI<|fresh_ne fd e).trans<|Sv<|e▸rfl
theorem Wd.sG{b:SJ}(ne:b≠d)(fb:W.h.get? b=Sd):(W.make h d x).ah b=none:=(SI ne).trans<|SI<|fb▸SR
theorem Wd.Lo:(W.make h d x).ah d=KX (.hd W.N):=Sv rfl
theorem Wd.sj:(W.make h d x).ρ W.N=x:=Sv rfl
theorem Wd.Aa(k:∀a o,W.h.get? a=KX o->h.get? a=KX o)(fd:W.h.get? d=Sd):W.Fk (W.make h d x) where
 keep:=λa o e O=>k a o e
 free:=λa o e l=>(Wd.mn fd e).trans l
 out:=λa o e l=>(Wd.mn fd e).trans l
 outk:=λa o e O=>k a o e
 dq:=λn hn=>SI (Tz hn)
 N:=Tn _
 aL:=λd' n es k' e l=> .same (k _ _ e) ((Wd.mn fd e).trans l)
 seen:=λa o ℓ O e l=>⟨k a o e,(Wd.mn fd e).trans l⟩
theorem Wd.Ah(k:∀a o,W.h.get? a=KX o->h.get? a=KX o)(fd:W.h.get? d=Sd):W.Kp (λu0=>Y2) (W.make h d x):=
 ⟨(Wd.Aa k fd).toFe,λa o ℓ O e l=>⟨k a o e,(Wd.mn fd e).trans l⟩⟩
noncomputable def Wd.mW(W:Wd)(a:SJ):Wd:={W with ah:=λb=>if b=a then Sd else W.ah b}
theorem Wd.FH:(W.mW d).ah d=none:=Sv rfl
theorem Wd.sH{b:SJ}(ne:b≠d):(W.mW d).ah b=W.ah b:=SI ne
theorem Wd.Ey(h:W.ah d=KX abx):W.Kp (·≠abx) (W.mW d):=
 ⟨⟨λu0 u1 e u2=>e,λb o e l=>jR (P:=λo:Sh aF=>o=Sd) (λu0=>rfl) λu0=>l,λu0 u1=>rfl,SN _⟩,λb o ℓ p e l=>⟨e,(Wd.sH λq=>p<|R9<|l.symm.trans ((R6 W.ah q).trans h)).trans l⟩⟩
end
section
variable{v:AV}
theorem HR.make{h:Tu}{x:SJ}(hr:HR S W H)(k:∀a o,W.h.get? a=KX o->h.get? a=KX o)(fd:W.h.get? d=Sd)(fx:W.h.get? x=Sd)(ne:x≠d)(hd:h.get? d=KX (aI [] 0))(hx:h.get? x=KX (eE (S.cls c) d #[])):
  HR S (W.make h d x) (H++[.inst c []]) where
 len:=List.length_append.trans (R6 (·+1) hr.len)
 at_:=λm e he=>if hm:m<H.length then(hr.at_ m e<|(TV hm).symm.trans he).kp (Wd.Ah k fd) (hr.len▸hm) λu0 u1=>trivial
  else by have lt:=(List.getElem?_eq_some_iff.mp he).1;have em:=U7 (Uj ((R6 (m<·)<|Sy).mp lt))<|Nat.not_lt.mp hm;subst em;have e1:=R9<|List.getElem?_concat_length.symm.trans he;subst e1;have er:(W.make h d x).ρ H.length=x:=hr.len.symm▸Wd.sj;exact(hV.mk d #[] [] 0 (er.symm▸hx) (er.symm▸Wd.sG ne fx) (hr.len.symm▸Wd.Lo) hd bY.nil)
theorem bY.Qv{m:Sf}{l:R5 (Sf×SV)}:∀{es:R5 Sk} {l':R5 (Sf×AV)},bY S W m es l->AW l=KX l'->RA S W es l':=by
 induction l with
 |nil=>exact fun{es l'} r h=>r.bN<|R9 h▸RA.nil
 |cons p l ih=>exact fun{es l'} r h=>r.aU λt u es z a b=>SV.qW (λy h a=>bI (λl2 e (q:(p.1,y)::l2=l')=>q▸RA.cons a (ih b e)) h) h (λh O=>au h) a
theorem IH(st:bU S T P tb)(hl:iv S T tb r n)(hf:pj S T r n)(rm:aN A (n+1))(hs:s.heap=W.h)(sx:St S T W env ks loc H){gi:Sf}{x:SS}{l:R5 ME}{es:R5 SE}
  (cg:jY tb ks gi x=R8) (ca:cP tb k ks l es=R8) (hg:P.bW[gi]? =KX (.cls c)) (h1:cq r l loc H=KX (vs,H1)) (h2:mF P r c vs H1=KX (v,H')) (g:EG S T env ks loc H' v s W Q):
  Sm (md S) A (TN (.Call (.Name x p) es [] pos) env) Q E s:=by
 have rm0:=rm.less<|Tn n;refine Th<|qy (st:=st) hs sx.ok sx.fr cg hg λq rq=>rq.K5 ?_;refine callArgs hl (sd<|st.GC c) rm0 hs sx ca h1 λus ai aj a1 a2 a3 a4 a5 a6=>⟨a1▸a5.ok.iq st,?_⟩;refine bG (λd hd h2=>aC (λu H2 h3 h2=> ?_) h2) h2;have m:=st.O3 c d hd;have X:=a1▸a5.ok.iq st;refine(st.vP d.init).elim λfa ef=> ?_;rw[ef] at m;refine UL ?_
 induction ai using aaw with|mk hh gg dr t os=> ?_
 subst a1;refine make_core (makes_of X m.1) (WD X m.2.1) (λself=>bind_fn X self<|beq_iff_eq.mp m.2.2) (.inl rfl) ?_
 let d0:=aj.h.objs.size
 let x0:=aj.h.objs.size+1
 let h0:=(aj.h.push emptyDict).push<|instObj (S.cls c) d0
 have k0:∀a o,aj.h.get? a=KX o->h0.get? a=KX o:=λa o e=>Su _<|Su _ e;have fd:aj.h.get? d0=none:=bz<|SN _;have fx:aj.h.get? x0=none:=bz<|Tn _;have hd0:h0.get? d0=KX (aI [] 0):=Su _<|SD _ rfl;have hx0:h0.get? x0=KX (eE (S.cls c) d0 #[]):=by have:(aj.h.push emptyDict).objs.size=x0:=T9 ..;rw[←this];exact SD _ rfl
 have xd:x0≠d0:=Ys _;have fk:=Wd.Aa (x:=x0) k0 fd;have kp:=Wd.Ah (x:=x0) k0 fd;have ok2:=a5.ok.kp kp trivial;have hr2:=a5.hr.make k0 fd fx xd hd0 hx0;have rr:=
  aA.cons ((congr (R6 (λa n=>RV S (aj.make h0 d0 x0) (.ref a)<|.ref n)<|Wd.sj) a5.hr.len.symm).mp<|RV.ref<|T5 _) (a6.mono fk.toLe);have key:=hf (A:=A.under<|.builtin "type.__call__" ⟨.ref (S.cls c)::us,[]⟩) (s:=⟨h0,gg,dr,t,os⟩) (E:=E) rm.tc rfl ok2 hr2 rr h3 λq aX aT b1 b2 b3 b4 b5=>by
  refine AV.kP (P:=λu=>RV S aT q u->q=.none/\Q (.ref x0) aX) (λh2 rq=>⟨rq,?_⟩) h2 (λh O=>au h) b5.2.2.2;have ok3:=b5.2.1;have hr3:=b5.2.2.1;have eN:aj.N<(aj.make h0 d0 x0).N:=T5 _;have er2:=(R6 aT.ρ a5.hr.len).trans<|(b4.dq _ eN).trans Wd.sj;have lN:=a5.hr.len.symm▸Si eN b4.N;have z:=fk.trans b4;have f2:=(a5.fr.kp fk.kp).kp b4.kp;have fin:∀(val:Sq),UI val (HE.eC H2[H1.length]? Sd λc' l=>if c'=c then(AW l).map λl'=>(AV.inst c l',H2.set H1.length .dead) else Sd) (KX (.ref H1.length,H2))=KX (v,H')->Q (.ref x0) aX:=by
   intro val h2
   induction val using Tb with
   |false=>
    have g:=(R6 (λp:AV×Hp=>EG S T env ks loc p.2 p.1 s W Q)<|R9 h2).mpr g;exact(g.after a2 a3 a4) _ aX aT b1 b2 b3 z ⟨⟨ok3,hr3,f2⟩,er2▸RV.ref lN⟩
   |true=>
    refine HE.gN (P:=λo=>H2[H1.length]? =o->Q (.ref x0) aX) (λc' l' h2 hi=>aR (λec h2=>bI (λl'' hm e=> ?_) h2) h2) h2 (λh O=>au h) rfl;have g:=(R6 (λp:AV×Hp=>EG S T env ks loc p.2 p.1 s W Q) e).mpr g;subst ec;refine hV.casesOn (hr3.at_ _ _ hi) λdd sl es' j e1 e2 e3 e4 e5=> ?_;rw[er2] at e1 e2;have hx2:=b4.keep _ _ hx0<|Wd.sG xd fx;have edd:=(R9<|R6 Obj.dict<|R9<|hx2.symm.trans e1).symm;subst edd;have kp3:=Wd.Ey e3;have st3:St S T (aT.mW d0) env ks loc (H2.set H1.length .dead):=⟨ok3.kp kp3 (λe=>nomatch e),⟨(UC ..).trans hr3.len,λm' e' he'=>if q:m'=H1.length then by subst q;exact R9 ((T8 (List.getElem?_eq_some_iff.mp hi).1).symm.trans he')▸trivial
     else
      have h:=(T3<|Up q).symm.trans he'
      (hr3.at_ m' e' h).kp kp3 (hr3.len▸(List.getElem?_eq_some_iff.mp h).1) λℓ h e=>q ((R6 (aF.ofEntry m') e).mp h).symm⟩,
     f2.kp (kp3.weaken λℓ h e=>h.elim (λh=>nomatch h.symm.trans e) λh=>nomatch h.symm.trans (R6 aF.bC e))⟩;have l1:∀{a o},aj.h.get? a=KX o->(aT.mW d0).ah a=aT.ah a:=λe=>Wd.sH<|fresh_ne fd e;have go3:aj.Fk (aT.mW d0):={keep:=z.keep,free:=λa o e l=>(l1 e).trans<|z.free a o e l,out:=λa o e l=>(l1 e).trans<|z.out a o e l,outk:=z.outk,dq:=z.dq,N:=z.N,aL:=λdd n es k e l=>iS.casesOn (z.aL dd n es k e l) λmore k' e' l'=>⟨more,k',e',(l1 e).trans l'⟩,seen:=λa o ℓ p e l=>have q:=z.seen a o ℓ p e l;⟨q.1,(l1 e).trans q.2⟩};have rv:RV S (aT.mW d0) (.ref x0) (.inst c' l''):=.inst hx2 ((Wd.sH xd).trans<|b4.free _ _ hx0<|Wd.sG xd fx) e4 Wd.FH<|(bY.Qv e5 hm).bE kp3.toFe;exact(g.after a2 a3 a4) _ aX (aT.mW d0) b1 b2 b3 go3 ⟨st3,rv⟩
  exact fin d.value h2
 rw[ef] at key;refine aah key λrr s' z=> ?_
 rcases rr with e|(v|_|_|_)<;>exact z
end
section
variable{Q:WX->Sn->Prop}
theorem Kq{na:Sf}{i:SK}{Q:Se->Sn->Prop}(a1:s.heap.get? a=KX (aE [v] na))(hk:i=0\/i=1)
  (g:∀s' j,s'.heap=s.heap.push (aE (if i=1 then [v] else []) j)->s'.gens=s.gens->s'.os=s.os->Q (.ref s.heap.objs.size) s'):Sm (md S) A (Vf .Mult (.ref a)<|.int i t) Q E s:=by
 refine hk.elim (λe=> ?_) λe=> ?_<;>subst e
 ·refine WV (by decide) ⟨_,a1,rfl⟩ (λs'=>Xs s' _ _) Zg Y9 VH aaK F.slot_int_index.lookup
   (VP VH (Xs s _ _) YO (Yz _ _) (XG _ _ _ [v].toArray na)
   ⟨a1,rfl,⟨_,a1,rfl⟩,VP Y7 ⟨_,a1,rfl⟩ YN (Yy _ _)
   (Vv _ [v].toArray na _ _ (by simp[XP]) (by exact Sa rfl) (by simp[Vd]))
   ⟨a1,?_⟩⟩)
  exact g _ 0 rfl rfl rfl
 ·refine WV (by decide) ⟨_,a1,rfl⟩ (λs'=>Xs s' _ _) Zg Y9 VH aaK F.slot_int_index.lookup
   (VP VH (Xs s _ _) YO (Yz _ _) (XG _ _ _ [v].toArray na)
   ⟨a1,rfl,⟨_,a1,rfl⟩,VP Y7 ⟨_,a1,rfl⟩ YN (Yy _ _)
   (Vv _ [v].toArray na _ _ (by simp[XP]) (by exact Sa rfl) (by simp[Vd,UZ]))
   ⟨a1,?_⟩⟩)
  exact g _ 0 rfl rfl rfl
theorem Hz(he:bH S T tb r n)(rm:aN A n)(hs:s.heap=W.h)(sx:St S T W env ks loc H){i:Sf}{a nn:ME}{x:SS}{v:AV}{j:SK}(cs:cG ks i x=R8)(oy:du y=R8)(ca:aK tb k ks a y=R8)(cn:aK tb k ks nn z=R8)
  (h1:r.e a loc H=KX (v,H1)) (h2:r.e nn loc H1=KX (.int j,H2)) (hj:(j=0/\l=[])\/(j=1/\l=[v])) (g:SG S T env ks (loc.set i<|.ml l) H2 .nx s W Q):
  Sm (md S) A (Ve (.Assign [.Name x p'] (.BinOp (.List [y] p2) .Mult z p3) p) env) Q E s:=by refine Vk (Za<|VO<|Tc ?_<|eI oy)<|dD rfl _ _ _;refine eg he rm hs sx ca h1 λq s1 W1 a1 a2 a3 a4 a5 a6=>To ⟨(by decide:1<=UZ),?_⟩;have kp:∀b o,W1.h.get? b=KX o->(s1.heap.push<|aE [q] 0).get? b=KX o:=λb o e=>bZ b o<|a1▸e;have fr:W1.h.get? s1.heap.objs.size=none:=a1▸bz (SN _);have mv:=Wd.gF kp;refine eg he rm rfl (a5.mv mv λu0=>id) cn h2 λq2 s2 W2 b1 b2 b3 b4 b5 b6=>b6.eS λt=> ?_;have l1:=b4.keep _ _ (SD s1.heap rfl)<|Wd.d6 fr;have rq:=(a6.mono<|mv.le id).mono b4.toLe;refine Kq (b1▸l1) (hj.imp And.left And.left) λs3 jj c1 c2 c3=> ?_;have rl:=hj.elim (λe=>(congr (R6 (aA S W2)<|SI (e.1▸by decide)) e.2).mpr aA.nil) λe=>(congr (R6 (aA S W2) (Sv e.1:(if j=1 then [q] else [])=[q])) e.2).mpr<|aA.cons rq aA.nil;exact(CY b1 b5 rl c1).elim λW3 d=>fO d.1 d.2.2.1 (dm cs) (.inl rfl) d.2.2.2.1 λs4 W4 e1 e2 e3 e4 e5=>(g.after a2 a3<|a4.toGo.trans<|(mv.go id λu0=>id).trans<|b4.toGo.trans d.2.1).fin ⟨e1,e2.trans<|c2.trans b2,e3.trans<|c3.trans b3,e4⟩ e5 rfl
theorem LQ(st:bU S T P tb)(rm:aN A n)(hs:s.heap=W.h){i:Sf}(rq:bV S W (.fs i) (λu0=> .fs i) q (.ml l))(hp:l.all (AV.plain 7)=R8)(ha:W.h.get? a=KX (aE [] 0))(la:W.ah a=Sd){Q:Se->Sn->Prop}
  (g:fq s (Q<|.bool<|!l.isEmpty)):Sm (md S) A (Ux .NotEq q<|.ref a) Q E s:=
 have e:=by induction l using Sp<;>rfl
 have c:tw (.lst l) (.lst [])=KX l.isEmpty:=(Sv<|Bool.and_eq_true_iff.mpr ⟨hp,rfl⟩).trans (R6 KX e)
 BV (o:=.ne) st.bK (W:=W.eV<|aF.nR i) hs rm.nH (map_eq c) (rq.frozen rfl (Sz rfl) λu0=>Sz rfl) (.lst ha (Wd.oR la) aA.nil) g
theorem NY(st:bU S T P tb)(hSs:jv S T tb r n)(rm:aN A n)(hs:s.heap=W.h)(sx:St S T W env ks loc H){i:Sf}{x:SS}{b:R5 MS}{m:Sf}(cs:cG ks i x=R8)(hd:(x==("__debug__":SS))=Sj)(cb:cI tb k ks b bb=R8)
  (h:m7 r (λloc H=>cz loc[i]? λs=>s.j6 Sd λl=>if l.all (AV.plain 7) then KX (!l.isEmpty,H) else Sd) b m loc H=KX (fl,loc',H')) (g:SG S T env ks loc' H' fl s W Q):
  Sm (md S) A (Ve (.While (.Compare (.Name x p1) [.NotEq] [.List [] p2] p3) bb [] p) env) Q E s:=by refine zO hSs rm (fun{s' W' loc1 H1 H2 t Q E} a1 a5 h2 hq=> ?_) hs sx cb h g;refine bG (λsv hl h=>SV.uj (P:=λsv=>loc1[i]? =KX sv->Sm (md S) A (Wi (.Compare (.Name x p1) [.NotEq] [.List [] p2] p3) env<|TN (.Compare (.Name x p1) [.NotEq] [.List [] p2] p3) env) Q E s') (λl h hl=>aR (λhp h=> ?_) h) h (λh O=>au h) hl) h2;have hq:=(R6 (λp:Sq×Hp=>∀s2 W2,eU s' W' s2 W2->St S T W2 env ks loc1 p.2->Q p.1 s2)<|R9 h).mpr hq;refine XF (TK (nY a1 a5.fr (dm cs) hl (λe=>nomatch e) λq nq rq=>VO<|To ⟨Ui _,?_⟩) hd) rfl;have kp:∀b o,W'.h.get? b=KX o->(s'.heap.push<|aE [] 0).get? b=KX o:=λb o e=>bZ b o<|a1▸e;have fr:W'.h.get? s'.heap.objs.size=none:=a1▸bz (SN _);have mv:=Wd.gF kp;exact LQ st rm rfl (rq.mv mv id id λu0=>id) hp (SD s'.heap rfl) (Wd.d6 fr) λs2 e1 e2 e3=>Tp<|hq s2 (W'.grow<|s'.heap.push<|aE [] 0) ⟨e1,e2,e3,mv.go id λu0=>id⟩<|a5.mv mv λu0=>id
theorem Oo(he:bH S T tb r n)(rm:aN A n)(hs:s.heap=W.h)(sx:St S T W env ks loc H){i m:Sf}{a:ME}{x:SS}{v:AV}{j:SK}(cv:cA ks i x=R8)(nc:dP y=Sj)(ca:aK tb k ks a y=R8)(ck:aK tb k ks kk z=R8)
  (h:r.e a loc H=KX (v,H1)) (hl:loc[i]? =KX (.fr<|.ref m)) (h2:r.e kk loc H1=KX (.int j,H2)) (hb:H2[m]? =KX (.box l)) (h0:0<=j) (hj:j.toNat<l.length) (zl:l.length<2000) (g:SG S T env ks loc (H2.set m<|.box<|l.set j.toNat v) .nx s W Q):
  Sm (md S) A (Ve (.Assign [.Subscript (.Name x p) z p1] y p') env) Q E s:=by
 refine jr (λu0 u1 u2 hd u3=> ?_) cv;refine V7 (eg he rm hs sx ca h λq ai aj a1 a2 a3 a4 a5 a6=>TK (eR a1 a5.fr cv hl λqa rq=> ?_) hd)<|dD nc _ _ _;refine rq.nI λhm=> ?_;refine eg he rm a1 a5 ck h2 λqk aX aT b1 b2 b3 b4 b5 b6=>b6.eS λt=> ?_;refine sJ.casesOn (b5.hr.at_ m _ hb) λvs jj e1 e2 e3=> ?_;have er:=b4.dq _ hm;have f1:=er▸e1;have f2:=er▸e2;refine CH (b1▸f2) (e3.length▸zl) h0 (e3.length▸hj) λh' j' g1 sb=> ?_;have sb:=(R6 (λq=>SO (aj.ρ m) q h') b1).mp sb;have mv:=Wd.fG f1 sb;have n1:¬(aF.out=.bx m):=λe=>nomatch e;have le:=mv.le n1;have hr:HR S (aT.grow h') (H2.set m<|.box<|l.set j.toNat v):=⟨(UC ..).trans<|b5.hr.len.trans mv.N.symm,λm' e' he'=>if q':m'=m then by subst q';exact R9 ((T8 (List.getElem?_eq_some_iff.mp hb).1).symm.trans he')▸(sJ.mk _ j' (er.symm▸(mv.ah _ _ f2).trans f1) (er.symm▸g1)<|aA.set ((a6.mono b4.toLe).mono le) _<|e3.mono le)
  else
   have h:=(T3<|Up q').symm.trans he'
   (b5.hr.at_ m' e' h).kp (mv.lA n1) (b5.hr.len▸(List.getElem?_eq_some_iff.mp h).1) λℓ h e=>q' ((R6 (aF.ofEntry m') e).mp h).symm⟩;exact((g.after a2 a3 a4.toGo).after b2 b3 b4.toGo).fin ⟨rfl,rfl,rfl,mv.go n1 λu0 e=>nomatch e⟩ ⟨b5.ok.mv mv n1 (λe=>nomatch e),hr,b5.fr.mv mv n1 λℓ h e=>nomatch (R6 aF.bC e).symm.trans h⟩ rfl
theorem NC(st:bU S T P tb)(hs:s.heap=W.h)(sx:St S T W env ks loc H){i:Sf}{stm:T1}(c:xQ ks i stm=R8)(g:SG S T env ks (loc.set i<|.fr .lj) H .nx s W Q):Sm (md S) A (Ve stm env) Q E s:=by
 refine CA (P:=λstm=>Sm (md S) A (Ve stm env) Q E s) (λname x p body scope bind pos c=> ?_) c;refine ae (λc c7=>ae (λc c6=>ae (λc c5=>ae (λc c4=>ae (λc c3=>ae (λc1 c2=> ?_) c) c) c) c) c) c;have c2:=Sa c2;have c3:=Sa c3;have c4:=Sa c4;subst c3 c4;have hcode:=sx.fr.cod i c2;have F:=sx.fr;have hcl:=pS λy hy=>(Bool.or_eq_true_iff.mp<|List.all_eq_true.mp c7 _ hy).elim (λh=>(Sa h rfl).elim) λh=>(List.any_eq_true.mp h).elim λq hq=>ae (λe1 e2=>(List.mem_iff_getElem?.mp hq.1).elim λj hj=>by
  have e1:=Sa e1;have e2:=Sa e2;have hj:=hj.trans<|R6 KX<|congr (R6 Prod.mk e1) e2;exact(F.lookup hj<|S4<|F.lt hj).2.elim λm q=>n8.casesOn q.2 (λc O u1 h u2 u3 u4 u5=>⟨c,h⟩) λc O u1 u2 h u3 u4 u5 u6 u7=>⟨c,h⟩) hq.2;have hg:=hs▸sx.ok.ns st.gl st.gl';refine sx.ok.tB.elim λmore tb=> ?_;have tat:=tb.1;have zY:=st.zY;have Cr:CodeHd s.heap S.tc T.tp:=st.Cr.elim λo q=>q.elim λvs q=>q.elim λfile q=>q.elim λtf q=>q.elim λflags q=>q.elim λtg q=>q.elim λinF q=>q.elim λtext q=>q.elim λtt q=>⟨o,vs,file,tf,flags,tg,inF,text,tt,hs▸(sx.ok.base _ _ (zY▸q.1)<|zY▸sx.ok.tc.1).1,zY▸q.2⟩;have hP:=hs▸tat.2;have hb:s.heap.BuiltinsAt T.mg T.tp:=st.bmod.elim λbm q=>q.elim λo q=>⟨bm,o,q.1,q.2.1,q.2.2.1,q.2.2.2.1,hs▸(sx.ok.base _ _ q.2.2.2.2.1 q.2.2.2.1).1,q.2.2.2.2.2⟩;refine nestDef_K rfl rfl rfl ?_;have n1:¬(aF.out=.tab):=λe=>nomatch e;have fin:∀(h':Tu) (tk:Sf) (fo:Xl) (more':Td Se),fo.isFreed=Sj->(∀b o,b≠T.tp->s.heap.get? b=KX o->h'.get? b=KX o)->h'.get? T.tp=KX (tabObj more')->(more'= #[]\/∃c':SJ,more'= #[UN 83,UN 4,.ref c'])->s.heap.objs.size<=h'.objs.size->
   Sm (md S) A (X3 env ("put_in")<|.ref h'.objs.size) (λu0 s''=>Q .next s'') E {s with heap:=h'.push fo,toks:=tk}:=by
  intro h' tk fo more' hfo hk ht hm hsz;have kp:∀a o,W.h.get? a=KX o->(∀ℓ,W.ah a=KX ℓ->¬(ℓ=.tab))->(h'.push fo).get? a=KX o:=λa o e n=>Su _<|hk a o (λq=>n .tab (q▸sx.ok.tab) rfl)<|hs▸e;have mv:=Wd.mM kp;have fr:=bz<|hs▸hsz;have ok':dU S T (W.grow<|h'.push fo):=⟨λa o e ne=>have q:=sx.ok.base a o e ne;⟨mv.tK q.1 q.2,(mv.ah _ _ q.1).trans q.2⟩,(mv.ah _ _ tat.2).trans sx.ok.tab,
   ⟨more',⟨tat.1.elim λo q=>q.elim λvs q=>sx.ok.tc.2.elim λo' e'=>⟨o,vs,mv.tK q.1 (sx.ok.base _ _ e' sx.ok.tc.1).2,q.2⟩,Su _ ht⟩,hm⟩,sx.ok.tc⟩;have sx':St S T (W.grow<|h'.push fo) env ks loc H:=⟨ok',sx.hr.mv mv n1 λn ℓ h e=>(R6 (aF.ofEntry n) e).mp h,F.mv mv n1 λℓ h e=>nomatch (R6 aF.bC e).symm.trans h⟩;exact(kT c1).elim λvk c=>fO rfl sx' c.1 (c.2.imp id λe=>⟨e,_,rfl⟩) (.fr<|.lj (SD h' hfo)<|Wd.d6 fr) λs3 W3 d1 d2 d3 d4 d5=>g.fin ⟨d1,d2,d3,(mv.go n1 λu0 e=>nomatch e).trans d4⟩ d5 rfl
 have c5:=Sa c5;have c6:=Sa c6;have posOk:UN pos.line=UN 83/\UN pos.col=UN 4:=⟨R6 (λn:Sf=>UN n) c5,R6 (λn:Sf=>UN n) c6⟩;refine tb.2.elim (λe=> ?_) λe=>e.elim λc' e=> ?_
 ·subst e
  refine makeFunction_K hcl F.gl hg hcode Cr hP trivial rfl st.gl' hb λc' ctv doc h' tk hx hge hlt hrec htb=> ?_;exact fin h' tk _ _ rfl (λb o ne e=>hx b o ne e) htb (.inr ⟨c',by rw[posOk.1,posOk.2];rfl⟩) (Ss hge<|SQ hlt)
 ·subst e
  refine makeFunction_hit hcl F.gl hg hcode Cr hP trivial (by show(if _ then _ else _)=_;rw[c5,c6];rfl) hb λctv doc h' tk hk hsz=> ?_;exact fin h' tk _ _ rfl (λb o O e=>hk b o e) (hk _ _ hP) (.inr ⟨c',rfl⟩) hsz
end
section
variable{Q:WX->Sn->Prop}
theorem vA{i:Sf}{x:SS}{Q:TZ->Sn->Prop}(hs:s.heap=W.h)(sx:St S T W env ks loc H)(hk:ks[i]? =KX (x,.l))(la:W.ah a=KX (jy ks))(ha:W.h.get? a=KX (aE us j))(ru:aA S W us vs)
  (g:Ends s W (λW'=>St S T W' env ks (loc.set i<|.ml vs) H/\∀b o,b≠a->W.h.get? b=KX o->W.ah b=KX (jy ks)->W'.h.get? b=KX o/\W'.ah b=KX (jy ks)) (Q ())):Sm (md S) A (X3 env x<|.ref a) Q E s:=
 qu (W:=W.kB a<|.fs i) hs (sx.kB la) hk (.inl rfl) (.ml Wd.yi ha<|ru.bE (Wd.sD la).toFe) λs' W' c1 c2 c3 c4 c5=>
  g s' W' c1 c2 c3 ((Wd.xl la).trans c4) ⟨c5.1,λb o ne e l=>c5.2 b o e<|(SI ne).trans l⟩
theorem zy{f1 f2:Se->Sem TZ}{i:Sf}{x y:SS}{b:SJ}{us':R5 AV}{m1 m2:Sf}{Q:TZ->Sn->Prop}(hs:s.heap=W.h)(sx:St S T W env ks loc H)(hk:ks[i]? =KX (x,.l))(hk2:ks[j]? =KX (y,.l))(ne:b≠a)(la:W.ah a=KX (jy ks))(ha:W.h.get? a=KX (aE us m1))(ru:aA S W us vs)
  (lb:W.ah b=KX (jy ks)) (hb:W.h.get? b=KX (aE ws m2)) (rw':aA S W ws us')
  (h1:∀{v:Se} {Q:TZ->Sn->Prop} {s:Sn},Sm (md S) A (X3 env x v) Q E s->Sm (md S) A (f1 v) Q E s)
  (h2:∀{v:Se} {Q:TZ->Sn->Prop} {s:Sn},Sm (md S) A (X3 env y v) Q E s->Sm (md S) A (f2 v) Q E s)
  (g:Ends s W (λW'=>St S T W' env ks ((loc.set i<|.ml vs).set j<|.ml us') H) (Q ())):
  Sm (md S) A (ZT [f1,f2] [.ref a,.ref b]) Q E s:=by refine UM<|h1<|vA hs sx hk la ha ru λs1 W1 c1 c2 c3 c4 c5=> ?_;have q:=c5.2 b _ ne hb lb;refine UM<|h2<|vA c1 c5.1 hk2 q.2 q.1 (rw'.mono c4.toLe) λs2 W2 d1 d2 d3 d4 d5=> ?_;exact Sg<|g s2 W2 d1 (d2.trans c2) (d3.trans c3) (c4.trans d4) d5.1
theorem zA(hs:s.heap=W.h)(sx:St S T W env ks loc H)(us:R5 Se):∃W',W'.h=s.heap.push (aE us 0)/\W.Mv iz W'/\St S T W' env ks loc H/\W'.ah s.heap.objs.size=KX (jy ks)/\W'.h.get? s.heap.objs.size=KX (aE us 0):=
 have q:=w6 hs sx rfl
 ⟨_,rfl,q.1,q.2.2.2,q.2.1,q.2.2.1⟩
inductive GF(S:bf)(T:cU)(env:Xz)(ks:R5 (SS×VK))(loc:Loc)(H':Hp)(s:Sn)(W:Wd)(vs ws:R5 AV)(m:SJ)(s3:Sn):Prop
 |mk (a1 a2:SJ) (us ws':R5 Se) (W3:Wd):eU s W s3 W3->St S T W3 env ks loc H'->a2≠a1->W3.ah a1=KX (jy ks)->W3.h.get? a1=KX (aE us 0)->aA S W3 us vs->W3.ah a2=KX (jy ks)->W3.h.get? a2=KX (aE ws' 0)->aA S W3 ws' ws->W3.h.get? m=KX (cE [.ref a1,.ref a2] 0)->GF S T env ks loc H' s W vs ws m s3
theorem CX(hl:iv S T tb r n)(rm:aN A n)(hs:s.heap=W.h)(sx:St S T W env ks loc H){a b:R5 ME}{es fs:R5 SE}{p4 p5:Vu}{ws:R5 AV}
  (ca:cP tb k ks a es=R8) (cb:cP tb k ks b fs=R8) (z1:a.length<1000) (z2:b.length<1000) (h1:cq r a loc H=KX (vs,H1)) (h2:cq r b loc H1=KX (ws,H')) (gg:∀m s3,GF S T env ks loc H' s W vs ws m s3->G (.ref m) s3):
  Sm (md S) A (TN (.Tuple [.List es p4,.List fs p5] c' p6) env) G E s:=by
 refine aaI<|Tc (VO<|hl ca rm hs sx h1 λus s1 W1 a1 a2 a3 a4 a5=>⟨T6▸qU a5.2 (gY h1) z1,(zA a1 a5.1 us).elim λW1' b=> ?_⟩) rfl;refine Tc (VO<|hl cb rm b.1.symm b.2.2.1 h2 λws' s2 W2 c1 c2 c3 c4 c5=>⟨T6▸qU c5.2 (gY h2) z2,(zA c1 c5.1 ws').elim λW2' f=> ?_⟩) rfl;have d:=c4.seen _ _ _ rfl b.2.2.2.2 b.2.2.2.1;refine To ⟨(by decide:2<=UZ),?_⟩;have mv:=Wd.gF (h:=(s2.heap.push<|aE ws' 0).push<|cE [.ref s1.heap.objs.size,.ref s2.heap.objs.size] 0) λb o e=>bZ b o<|f.1▸e;have d1':=(f.2.1.ah _ _ d.1).trans d.2;have d2':=f.2.1.keep _ _ d.1 λu0 u1=>id;have nea:=Ya<|TR<|c1.symm▸d.1;have le1:=((b.2.1.le id).trans c4.toLe).trans<|(f.2.1.le id).trans<|mv.le id;exact gg _ {s2 with heap:=(s2.heap.push<|aE ws' 0).push (cE [.ref s1.heap.objs.size,.ref s2.heap.objs.size] 0)} (.mk s1.heap.objs.size s2.heap.objs.size us ws' _ ⟨rfl,c2.trans a2,c3.trans a3,a4.toGo.trans<|(b.2.1.go id λu0=>id).trans<|c4.toGo.trans<|(f.2.1.go id λu0=>id).trans<|mv.go id λu0=>id⟩ (f.2.2.1.mv mv λu0=>id) nea ((mv.ah _ _ d2').trans d1') (mv.keep _ _ d2' λu0 u1=>id) (a5.2.mono le1)
  ((mv.ah _ _ f.2.2.2.2).trans f.2.2.2.1) (mv.keep _ _ f.2.2.2.2 λu0 u1=>id) (c5.2.mono<|(f.2.1.le id).trans<|mv.le id) (SD (s2.heap.push<|aE ws' 0) rfl))
theorem DP(hh:A.handled=Sd){a1 a2 m:SJ}{s3:Sn}{W3:Wd}{Q:R5 Se->Sn->Prop}(e1:s3.heap=W3.h)(e2:W3.h.get? m=KX (cE [.ref a1,.ref a2] 0))(gg:∀s4 W4,s4.heap=W4.h->s4.gens=s3.gens->s4.os=s3.os->W3.Mv iz W4->Q [.ref a1,.ref a2] s4):
  Sm (md S) A (Zb (.ref m) 2 Sd) Q E s3:=
 have k:=Z1 hh (gp<|e1▸e2) λh' he=>
  gg {s3 with heap:=h'} (W3.grow h') rfl rfl rfl (Wd.gF λb o e=>have e:=e1▸e;he b o (Tz<|TR e) e)
 k
theorem M3(hl:iv S T tb r n)(rm:aN A n)(hs:s.heap=W.h)(sx:St S T W env ks loc H){i:Sf}{a b:R5 ME}{x y:SS}{es fs:R5 SE}{p4 p5:Vu}{ws:R5 AV}(cs:cG ks i x=R8)(cs2:cG ks j y=R8)
  (ca:cP tb k ks a es=R8) (cb:cP tb k ks b fs=R8) (z1:a.length<1000) (z2:b.length<1000) (h1:cq r a loc H=KX (vs,H1)) (h2:cq r b loc H1=KX (ws,H')) (ne:i≠j)
  (g:SG S T env ks ((loc.set i<|.ml vs).set j<|.ml ws) H' .nx s W Q):Sm (md S) A (Ve (.Assign [.Tuple [.Name x p1,.Name y p2] c p3] (.Tuple [.List es p4,.List fs p5] c' p6) p) env) Q E s:=by
 have hk:=dm cs;have hk2:=dm cs2;have sw:uq (.Tuple [.List es p4,.List fs p5] c' p6)=true:=rfl;refine(pO sw).elim (λhw=>XX (CX hl rm hs sx ca cb z1 z2 h1 h2 λm s3 t=>GF.casesOn t λa1 a2 us ws' W3 e1 e5 e8 e9 f1 f2 f3 f4 f5 f6=> ?_) (qV rfl) hw)
  λq=>q.elim λx' q=>q.elim λq1 q=>q.elim λy' q=>q.elim λq2 q=>W9 (names:=[x,y]) (CX hl rm hs sx ca cb z1 z2 h1 h2 λm s3 t=>GF.casesOn t λa1 a2 us ws' W3 e1 e5 e8 e9 f1 f2 f3 f4 f5 f6=> ?_) (qV rfl) ?_
 ·have e1:=(Z7 (Yv q.1).1).1
  have e2:=(Z7 (Yv (Yv q.1).2).1).1;exact q.2.2.2.2.trans<|e1▸e2▸rfl
 ·have l:(WN [.Name x p1,.Name y p2] env).length=2/\(WN [.Name x p1,.Name y p2] env).findIdx? (·.1)=none:=⟨rfl,rfl⟩
  rw[assign_Tuple];refine R7<|TU ?_;unfold unpack;rw[l.1,l.2];refine R7<|SY<|DP rm.hd e1.heap f6 λs4 W4 g1 g2 g3 mv=> ?_;exact zy g1 (e5.mv mv λu0=>id) hk hk2 e8 ((mv.ah _ _ f1).trans e9) (mv.keep _ _ f1 λu0 u1=>id) (f2.mono<|mv.le id) ((mv.ah _ _ f4).trans f3) (mv.keep _ _ f4 λu0 u1=>id) (f5.mono<|mv.le id) WY WY λs5 W5 k1 k2 k3 k4 k5=>
   g.fin ((e1.trans ⟨g1,g2,g3,mv.go id λu0=>id⟩).trans ⟨k1,k2,k3,k4⟩) k5 rfl
 ·refine DP rm.hd e1.heap f6 λs4 W4 g1 g2 g3 mv=> ?_
  exact zy g1 (e5.mv mv λu0=>id) hk2 hk (Up e8) ((mv.ah _ _ f4).trans f3) (mv.keep _ _ f4 λu0 u1=>id) (f5.mono<|mv.le id) ((mv.ah _ _ f1).trans e9) (mv.keep _ _ f1 λu0 u1=>id) (f2.mono<|mv.le id) XS XS λs5 W5 k1 k2 k3 k4 k5=>
   g.fin ((e1.trans ⟨g1,g2,g3,mv.go id λu0=>id⟩).trans ⟨k1,k2,k3,k4⟩) (abo (SV.ml ws) (SV.ml vs) (Up ne)▸k5) rfl
end
set_option tactic.hygienic true in
theorem wR:∀{a b:R5 T1} {s:Sn} {Q:WX->Sn->Prop},
  Sm M A (Yc a env) (λf s'=>match f with|.next=>Sm M A (Yc b env) Q E s'|f=>Q f s') E s->Sm M A (Yc (a++b) env) Q E s:=by
 have key:∀(a b:R5 T1),Yc (a++b) env=(Yc a env>>=λf=>match f with|.next=>Yc b env|f=>pure f):=by
  intro a b
  induction a with
  |nil=>show Yc b env=(pure Flow.next>>=_);rw[pure_bind]
  |cons st a ih=>
   show(Ve st env>>=_)=((Ve st env>>=_)>>=_);rw[bind_assoc];refine R6 _<|funext λf=> ?_
   cases f<;>first|exact ih|rfl
 intro a b s Q h;rw[key];refine R7<|TS h (λf s' hf=> ?_) λu0 u1 x=>x
 cases f<;>first|exact hf|exact Sg hf
section
variable{Q:WX->Sn->Prop}
theorem BM{e:ME}{l:R5 MS}:∀{k:Sf} {sts:R5 T1} {Pp:R5 T1->Prop},cI tb k ks (l++[.ret e]) sts=R8->(∀sts' x p k2,cI tb k ks l sts'=R8->aK tb k2 ks e x=R8->Pp (sts'++[.Return (KX x) p]))->Pp sts:=by
 induction l with
 |nil=>
  intro k sts Pp h kont;refine pn (m:=MS.ret e) (λu0 u1 u2 e0 u3 u4=>au e0) (λk' st sts' ek O c1 c2=>vC (P:=λsts'=>Pp (st::sts')) ?_ c2) h
  induction k' using SW with
  |zero=>exact bc c1
  |succ k2=>exact nP (λv p c=>da (λx c=>kont [] x p k2 ((R6 (λk=>cI tb k ks [] []=R8) ek).mpr rfl) c) c) c1
 |cons m l ih=>
  exact fun{k sts Pp} h kont=>pn (λk' b ek e0 hb c=>ih c λsts' x p k2 c1 c2=>kont sts' x p k2 ((R6 (λk=>cI tb k ks (m::l) sts'=R8) ek).mpr<|Jy e0 hb c1) c2)
   (λk' st sts' ek e0 c1 c2=>ih (Pp:=λl=>Pp (st::l)) c2 λsts2 x p k2 d1 d2=>kont (st::sts2) x p k2 ((R6 (λk=>cI tb k ks (m::l) (st::sts2)=R8) ek).mpr<|Jz e0 c1 d1) d2) h
theorem ME.Md{m:ME}{f:R5 ME->Sh β}{y:β}{P:ME->Prop}(k:∀l,f l=KX y->P (.lst l)):m.OO Sd f=KX y->P m:=by
 induction m using ME.casesOn<;>first|exact k _|exact au
theorem MS.F3{m:MS}{f:ME->Sh β}{y:β}{P:MS->Prop}(k:∀l,f l=KX y->P (.ret l)):m.Hr Sd f=KX y->P m:=by
 induction m using MS.casesOn<;>first|exact k _|exact au
theorem DY{m:Sh MS}{f:R5 ME->Sh β}{y:β}{P:Prop}(k:∀es,m=KX (.ret<|.lst es)->f es=KX y->P)(h:MS.xj m f=KX y):P:=
 bG (λm' e h=>MS.F3 (P:=λq=>m=KX q->P) (λe' h e=>ME.Md (P:=λe'=>m=KX (.ret e')->P) (λes h e=>k es e h) h e) h e) h
noncomputable def Wd.gx(W:Wd)(h:Tu)(x:SJ):Wd:={h:=h,ah:=λb=>if b=x then KX (.bx W.N) else if(W.h.get? b).isSome then W.ah b else Sd,ρ:=λm=>if m=W.N then x else W.ρ m,N:=W.N+1}
section
variable{h:Tu}{x:SJ}
theorem Wd.nh{b:SJ}(fd:W.h.get? x=Sd)(e:W.h.get? b=KX o):(W.gx h x).ah b=W.ah b:=(SI<|fresh_ne fd e).trans<|Sv<|e▸rfl
theorem Wd.vq:(W.gx h x).ρ W.N=x:=Sv rfl
theorem Wd.Cd:(W.gx h x).ah x=KX (.bx W.N):=Sv rfl
theorem Wd.j8(k:∀a o,W.h.get? a=KX o->h.get? a=KX o)(fd:W.h.get? x=Sd):W.Kp (λu0=>Y2) (W.gx h x):=
 ⟨⟨λa o e O=>k a o e,λa o e l=>(Wd.nh fd e).trans l,λn hn=>SI<|Tz hn,Tn _⟩,λa o O u1 e l=>⟨k a o e,(Wd.nh fd e).trans l⟩⟩
theorem Wd.E7(k:∀a o,W.h.get? a=KX o->h.get? a=KX o)(fd:W.h.get? x=Sd):W.Go (W.gx h x):=
 ⟨⟨(Wd.j8 k fd).toFe,λa o e l=>(Wd.nh fd e).trans l,λa o e O=>k a o e⟩,λd n es k' e l=> .same (k _ _ e)<|(Wd.nh fd e).trans l⟩
theorem HR.gx(hr:HR S W H)(k:∀a o,W.h.get? a=KX o->h.get? a=KX o)(fd:W.h.get? x=Sd)(hx:h.get? x=KX (aE us j))(ru:aA S W us vs):HR S (W.gx h x) (H++[.box vs]) where
 len:=List.length_append.trans (R6 (·+1) hr.len)
 at_:=λm e he=>if hm:m<H.length then(hr.at_ m e<|(TV hm).symm.trans he).kp (Wd.j8 k fd) (hr.len▸hm) λu0 u1=>trivial
  else by have lt:=(List.getElem?_eq_some_iff.mp he).1;have em:=U7 (Uj ((R6 (m<·)<|Sy).mp lt))<|Nat.not_lt.mp hm;subst em;have e1:=R9<|List.getElem?_concat_length.symm.trans he;subst e1;have er:(W.gx h x).ρ H.length=x:=hr.len.symm▸Wd.vq;exact(sJ.mk us j ((R6 (W.gx h x).ah er).trans<|Wd.Cd.trans<|R6 (λn=>KX<|aF.bx n) hr.len.symm) (er.symm▸hx)<|ru.bE (Wd.j8 k fd).toFe)
end
theorem MR(st:bU S T P tb)(fns:∀f d,P.fns[f]? =KX d->sk S T tb f d)(he:bH S T tb r n)(hss:jv S T tb r n)(rm:aN A (n+1))(hs:s.heap=W.h)(sx:St S T W env ks loc H){i gi:Sf}{l:R5 ME}{e:ME}{x y fx:SS}{es:R5 SE}
  {v:AV} (cs:cG ks i x=R8) (cs2:cG ks j y=R8) (ct:dX ks (.t [.n i,.n j]) (.Tuple [.Name x p1,.Name y p2] c p3)=R8) (sw:uq (.Tuple [.Call (.Name fx p0) es [] pos,z] c' p6)=R8) (cg:jY tb ks gi fx=R8) (oz:du z=R8) (ca:cP tb k ks l es=R8) (ce:aK tb k ks e z=R8) (hg:P.bW[gi]? =KX (.fn f)) (h1:cq r l loc H=KX (vs,H1)) (h2:Be P r f vs H1=KX (xs,H2))
  (h3:r.e e loc (H2++[.box xs])=KX (v,H')) (ht:gm (.t [.n i,.n j]) (.tup [.ref H2.length,v]) loc=KX loc') (g:SG S T env ks loc' H' .nx s W Q):
  Sm (md S) A (Ve (.Assign [.Tuple [.Name x p1,.Name y p2] c p3] (.Tuple [.Call (.Name fx p0) es [] pos,z] c' p6) p) env) Q E s:=by
 have rm0:=rm.less<|Tn n;refine CZ rm0 sx.fr rfl sw ct (fun{G} gg=> ?_) ht g;refine aaI<|Tc (Th<|qy (st:=st) hs sx.ok sx.fr cg hg λq rq=>rq.GQ ?_) rfl;refine callArgs (nQ he) (sd (st.xw f).1) rm0 hs sx ca h1 λus ai aj a1 a2 a3 a4 a5 a6=>⟨a1▸a5.ok.iq st,UL ?_⟩;refine bG (λd hd h2=>bG (λvs' ha h2=>DY (λes' hlast h2=>lU (λfl2 loc1 H1' hb h2=> ?_) h2) h2) h2) h2
 induction fl2 using Fl.casesOn with|ct=>exact au h2|rt _=>exact au h2|nx=> ?_
 have ebody:=(List.getLast?_eq_some_iff.mp hlast).elim λl0 e=>e.trans (R6 (·++[MS.ret (.lst es')]) ((R6 abr e).trans ZN).symm);refine(fns f d hd).elim λF ck=>ck.elim λkk chk=> ?_;refine call_in (st:=st) F rm a1 a5.ok a5.hr a6 ha λenv' aX aT b1 b2 b3 d8 rm' OC=> ?_;refine BM (Pp:=λbody=>Sm (md S) (A.deeper env') (Yc body env') _ _ aX) ((R6 (λb=>cI tb kk (bJ F.fd.scope.names) b F.body=R8) ebody).mp chk) λsts' xx pp k2 ck1 ck2=> ?_;refine wR<|hss ck1 rm' b1 OC hb λfl nU yK c1 c2 c3 c4 c5=> ?_;have ef:=c5.2;subst ef;have c5:=c5.1
 induction k2 using SW with|zero=>exact bc ck2|succ k2=> ?_
 refine fA (λees pl ck3=> ?_) ck2;have ck3:=jX ck3;refine Uv<|wpAny_Return_some<|VO<|nQ he ck3.1 rm' c1 c5 h2 λus' ew iK d1 d2 d3 d4 d5=>⟨T6▸qU d5.2 (gY h2) (Sa ck3.2),?_⟩;have kp:∀b o,iK.h.get? b=KX o->(ew.heap.push<|aE us' 0).get? b=KX o:=λb o e=>bZ b o<|d1▸e;have fr:iK.h.get? ew.heap.objs.size=none:=d1▸bz (SN _);have hx:(ew.heap.push<|aE us' 0).get? ew.heap.objs.size=KX (aE us' 0):=SD ew.heap rfl;have go5:=(c4.trans d4.toGo).trans<|Wd.E7 kp fr;have kp5:=Wd.j8 kp fr;have kb:=d8.CB go5;have fk:=d8.fk go5;have sx6:St S T (aj.back<|iK.gx (ew.heap.push<|aE us' 0) ew.heap.objs.size) env ks loc (H2++[.box xs]):=⟨(d5.1.ok.kp kp5 trivial).kp kb nV,(d5.1.hr.gx kp fr hx d5.2).kp kb rfl λu0 u1=>kJ,a5.fr.kp fk.kp⟩;have rx:=
  (congr (R6 (λa n=>RV S (aj.back<|iK.gx (ew.heap.push<|aE us' 0) ew.heap.objs.size) (.ref a)<|.ref n)<|Wd.vq (h:=ew.heap.push<|aE us' 0)) d5.1.hr.len.symm).mp (RV.ref<|T5 _);refine Tc (eg he rm0 rfl sx6 ce h3 λqz MH R0 e1 e2 e3 e4 e5 e6=>To ⟨(by decide:2<=UZ),?_⟩)<|eI oz;refine xh (s':={MH with heap:=MH.heap.push (cE [.ref ew.heap.objs.size,qz] 0)}) e1 (aA.cons (rx.mono e4.toLe)<|aA.cons e6 aA.nil) rfl rfl rfl λs7 W7 f1 f2 f3 f4 f5=> ?_;exact gg _ s7 W7 f1 (f2.trans<|e2.trans<|d2.trans<|c2.trans<|b2.trans a2) (f3.trans<|e3.trans<|d3.trans<|c3.trans<|b3.trans a3) (a4.toGo.trans<|fk.toGo.trans<|e4.toGo.trans<|f4.go id λu0=>id) (e5.mv f4 λu0=>id) f5
end
end
noncomputable section
open PySem PySem.W PySem.Spec PySem.Calls PyProof.Rows Builtin Builtin.ObjectAttr
variable{W W' aj W₀ aT W'':Wd}{n k j c f ep k1 jn k2 c':Sf}{S:bf}{s ai s':Sn}{A:Vj}{E Q G:Se->Sn->Prop}{tb:gh}{T:cU}{ks:R5 (SS×VK)}{env:Xz}{P:PD}{loc loc':Loc}{r:Rec}{H H' H1 H2:Hp}{a d C D I ax tp l1 TI TO i1 i2:SJ}{p pos p' p1 p2 ap p3 p0 p6:Vu}{v q u it:Se}{l vs xs acc vs':R5 AV}{sv sv0 sv':SV}{ℓ abx:aF}{es:R5 Sk}{y e tg z el ox fE it2 it1:SE}{prog:Wm}{w:Yd}{fl:Fl}{b neg:Sq}{α β:Type}{o:Xl}{t tk:Tok}{K K':SK->Prop}{M:Model}{us ws:R5 Se}{as:R5 SJ}{sc:Xk}{R:ZG->Sn->Prop}{h' B:Tu}{Φ Φ':Wd->Prop}{es':Td (SK×Se)}{cap:R5 (Sh Sf)}{t':Uk}{kk elt:ME}{mA:SS->Sh Se}{name at' nm:SS}{ℓk:Sf->aF}{vk:VK}{J:Sf->Wd->Prop}{Jm:Sf->Se->Wd->Prop}{ts cs:R5 SE}{Z:Prop}{bb sts:R5 T1}{src:Src}{newId:WO}{ifs:R5 ME}
structure jG(bm:R5 Se):Prop where
 hasB:bm.contains (.type "Exception")=R8
 K9:bm.contains (.type "object")=R8
 noAttr:bm.contains (.type "AttributeError")=Sj
 noName:bm.contains (.type "NameError")=Sj
 pass:∀(self:Se) (C:SJ),refuseLoop self "__setattr__" (.ref C::bm)=pure ()
section
variable{h:Tu}{g:Td GenState}{d:Drawn}{t:Sf}{os:OsState}
variable{q:SS}{N:SJ}{bs bm:R5 Se}{hdct:Sq}{sn:R5 SS}{sub:R5 Se}{ab:Sq}{col:Sh Sq}{dd:Sh SJ}{k0 k1 k2 k3 k5:Sh Se}
theorem yP(V:jG bm){rest:R5 Se}{Q:TZ->Sn->Prop}(hC:h.get? C=KX (UH nm q C N bs bm hdct sn sub ab col dd k0 k1 k2 k3 k5 "Exception.__new__"))
  (hq:Q () ⟨h,g,d,t,os⟩):Sm M A (Uy "Exception.__new__" ⟨.ref C::rest,[]⟩) Q E ⟨h,g,d,t,os⟩:=by
 have F:=Us;have hcont:(Vi C::bm).contains (.type "Exception")=true:=by rw[UU,V.hasB,X8]
 unfold Uy;rw[F.newKind,F.newSplit,F.newRow]
 repeat (first|refine T2 hC ?_|(refine VC hC ?_;rw[hcont])|refine wpAny_staticBase_exc hC ?_|refine wpAny_madeBy_exc hC ?_|refine bM (by rw[bne_self_eq_false];exact SR) ?_|wp_step)
 exact hq
theorem Ol(V:jG bm){rest:R5 Se}(hC:h.get? C=KX (UH nm q C N bs bm hdct sn sub ab col dd k0 k1 k2 k3 k5 "Exception.__new__"))
  (hq:R (.ok<|.ret<|.ref<|h.objs.size+1) ⟨(h.push {cls:=.type "tuple",data:=.seq rest.toArray}).push
   {cls:=.ref C,data:=.fields #[.ref h.objs.size,.none,.none,.none,.bool Sj,.none]},g,d,t,os⟩) (hrest:rest.length<=UZ):
  Um (Tj prog w) A (.builtin "Exception.__new__" ⟨.ref C::rest,[]⟩) R ⟨h,g,d,t,os⟩:=by
 have F:=Us;have hends:=F.ends;have hcB:(Vi C::bm).contains (.type "Exception")=true:=by rw[UU,V.hasB,X8]
 have hcA:(Vi C::bm).contains (.type "AttributeError")=false:=by rw[UU,V.noAttr];rfl
 have hcN:(Vi C::bm).contains (.type "NameError")=false:=by rw[UU,V.noName];rfl
 refine codeAny_builtinAt F.entry ?_;refine aay ?_;refine aay (PySem.wpAt_stack λp below=>ZK ?_)
 wp_walk
 refine ZK ?_;rw[F.owner]
 repeat (first|with_reducible refine wpAny_madeHere_exc F.canon hC ?_|with_reducible refine T2 hC ?_|(with_reducible refine VC hC ?_;first|rw[hcB]|rw[hcA]|rw[hcN])|wp_step)
 rw[T9];exact hq
theorem yL(V:jG bm){mN:SS->Sh Se}{rest:R5 Se}{fI:SJ}{oI:Xl}{Q:Fin->Sn->Prop}
  (hC:h.get? C=KX (UH nm q C N bs bm hdct sn sub ab col dd k0 k1 k2 k3 k5 "Exception.__new__")) (hn:h.Ns N mN) (hi:mN "__init__"=KX (.ref fI))
  (hfI:h.get? fI=KX oI) (hfc:oI.cls=.type "function")
  (hq:∀h' e,abf h h' e (.ref C) rest->
   Sm (Tj prog w) A (Wv (.ref fI) (.ref e::rest)) (λr s'=>r=.none/\Q (.done (.ret<|.ref e)) s') E ⟨h',g,d,t,os⟩) (hrest:rest.length<=UZ):
  Sm (Tj prog w) A (VN.«type.__call__» ⟨.ref C::rest,[]⟩) Q E ⟨h,g,d,t,os⟩:=by
 have F:=Us
 repeat (first|with_reducible refine T2 hC ?_|with_reducible refine wpAny_madeBy_exc hC ?_|wp_step)
 refine codeAny_call_builtin_code (XO _ F.quiet)<|yP V hC ?_;refine Ol V hC ?_ hrest;have B8:=Su {cls:=.ref C,data:=.fields #[.ref h.objs.size,.none,.none,.none,.bool Sj,.none]}
  (Su {cls:=.type "tuple",data:=.seq rest.toArray} hC);have MI:=Su {cls:=.ref C,data:=.fields #[.ref h.objs.size,.none,.none,.none,.bool Sj,.none]}
  (Su {cls:=.type "tuple",data:=.seq rest.toArray} hfI);have OD:((h.push {cls:=.type "tuple",data:=.seq rest.toArray}).push {cls:=.ref C,data:=.fields #[.ref h.objs.size,.none,.none,.none,.bool Sj,.none]}).Ns N mN:=
  hn.elim λo h=>h.elim λes h=>h.elim λep h=>⟨o,es,ep,Su _<|Su _ h.1,h.2⟩;have hget:((h.push {cls:=.type "tuple",data:=.seq rest.toArray}).push
   {cls:=.ref C,data:=.fields #[.ref h.objs.size,.none,.none,.none,.bool Sj,.none]}).get? (h.objs.size+1)=KX
   {cls:=.ref C,data:=.fields #[.ref h.objs.size,.none,.none,.none,.bool Sj,.none]}:=by heap_get
 have hcC:(Vi C::bm).contains (.ref C)=true:=by simp
 repeat (first|with_reducible refine T2 hget ?_|(with_reducible refine VC B8 ?_;rw[hcC])|wp_step)
 rw[typeLookup_eq];refine R7<|wpAny_mroOf_exc B8 ?_;rw[lookupAlong_cons];refine R7<|wpAny_classOwn_exc B8 OD ?_;rw[hi];refine Sg ?_;refine SY<|R7 ?_;refine R7<|WB ⟨_,MI,hfc⟩ ?_;refine gc (by decide) ?_;refine Sg<|R7<|TS (hq _ (h.objs.size+1) ⟨λb o hb=>Su _<|Su _ hb,Xq<|Tn _,h.objs.size,hget,Xq<|SN _,?_⟩) (λr s' hr=> ?_) λu0 u1 x=>x
 ·exact Su _<|aav rfl rfl
 ·obtain ⟨rfl,hQ⟩:=hr
  wp_walk
  exact hQ
theorem x_call(V:jG bm){mN:SS->Sh Se}{rest:R5 Se}{fI:SJ}{oI:Xl}
  (hC:h.get? C=KX (UH nm q C N bs bm hdct sn sub ab col dd k0 k1 k2 k3 k5 "Exception.__new__")) (hn:h.Ns N mN) (hi:mN "__init__"=KX (.ref fI))
  (hfI:h.get? fI=KX oI) (hfc:oI.cls=.type "function")
  (hq:∀h' e,abf h h' e (.ref C) rest->
   Sm (Tj prog w) (A.under<|.builtin "type.__call__" ⟨.ref C::rest,[]⟩) (Wv (.ref fI) (.ref e::rest)) (λr s'=>r=.none/\Q (.ref e) s') E ⟨h',g,d,t,os⟩) (hrest:rest.length<=UZ):
  Sm (Tj prog w) A (Wv (.ref C) rest) Q E ⟨h,g,d,t,os⟩:=by
 have f1:=tc_lookup;have f2:=tc_bind<|.ref C;refine UL<|Zh ?_
 repeat (any_goals (first|assumption|with_reducible refine T2 hC ?_|wp_step))
 refine ⟨rfl,?_⟩;refine codeAny_call_builtin_at (XO _ (by decide+kernel)) entry_typeCall<|wpAny_check_type_call_sub hC<|yL (hrest:=hrest) V hC hn hi hfI hfc λh' e hm=> ?_;exact hq h' e hm
theorem yn(V:jG bm){e:SJ}{oe:Xl}{rest:R5 Se}{Q:TZ->Sn->Prop}
  (hC:h.get? C=KX (UH nm q C N bs bm hdct sn sub ab col dd k0 k1 k2 k3 k5 newId)) (he:h.get? e=KX oe) (hcls:oe.cls=.ref C) (hq:Q () ⟨h,g,d,t,os⟩):
  Sm M A (Uy "Exception.__init__" ⟨.ref e::rest,[]⟩) Q E ⟨h,g,d,t,os⟩:=by
 have F:=Us;have hcB:(Vi C::bm).contains (.type "Exception")=true:=by rw[UU,V.hasB,X8]
 unfold Uy;rw[F.initKind,F.initSplit,F.initRow]
 repeat (first|(with_reducible refine T2 he ?_;rw[hcls])|with_reducible refine T2 hC ?_|(with_reducible refine VC hC ?_;rw[hcB])|wp_step)
 refine wpAny_onRaise ?_;rw[show∀(a b:WO) (n:Sf),Bind.check ⟨.positional,"*","Exception",.self,[⟨"args",.varPos,Sj⟩]⟩ a b n (List.map (λx=>x.fst) ({pos:=Vi e::rest}:Args).kw)=pure () from
  λa b n=>check_star_args _ _ _ _ _ _];exact Sg hq
theorem Ko(V:jG bm){e t0:SJ}{oL:Sh SJ}{sl:Td (Sh Se)}
  (hC:h.get? C=KX (UH nm q C N bs bm hdct sn sub ab col dd k0 k1 k2 k3 k5 newId)) (he:h.get? e=KX {cls:=.ref C,dict:=oL,data:=.fields #[.ref t0,.none,.none,.none,.bool Sj,.none],slots:=sl})
  (hq:∀h' o',h'.get? e=KX o'->o'.cls=.ref C->(∃vs',o'.data=.fields vs')->o'.dict=oL->(∀b o,b≠e->h.get? b=KX o->h'.get? b=KX o)->Q .none ⟨h',g,d,t,os⟩):
  Sm (Tj prog w) A (Wv (.builtin "Exception.__init__") [.ref e,v]) Q E ⟨h,g,d,t,os⟩:=by
 have F:=Us;refine UL (XW F.init.plain F.initEntry<|yn V hC he rfl ?_)
 wp_walk
 refine hq _ _ (U9 _ (Su _ he) rfl) rfl ⟨_,rfl⟩ rfl λb o ne hb=> ?_;rw[Heap.get?_update_other _ _ (Up ne)];exact Su _ hb
variable{x:SJ}
set_option tactic.hygienic true in
theorem vY(V:jG bm){Q:Fin->Sn->Prop}{ns:R5 SS}
  (hC:h.get? C=KX (UH nm q C N bs bm R8 sn sub ab col dd k0 k1 k2 k3 k5 newId)) (hl:Looks (Tj prog w) h (Wh (.ref C) name) Sd) (hxC:x≠C) (I:h.Inst x C mA)
  (hq:∀h' tk',h'.Inst x C (λy=>if y=name then KX v else mA y)->
   (∀b o,b≠x->(∀eT dx,h.get? x=KX eT->eT.dict=KX dx->b≠dx)->h.get? b=KX o->h'.get? b=KX o)->
   (∀eT,h.get? x=KX eT->∃ki,h'.get? x=KX ki/\ki.cls=eT.cls/\ki.data=eT.data/\ki.slots=eT.slots/\(ki.dict=eT.dict\/∃dx,ki.dict=KX dx/\h.get? dx=Sd))->Q (.done (.ret .none)) ⟨h',g,d,tk',os⟩) (hw:Within mA ns) (hsz:ns.length<=UZ):
  Sm (Tj prog w) A (VN.«object.__setattr__» ⟨[.ref x,.str name tk,v],[]⟩) Q E ⟨h,g,d,t,os⟩:=by
 obtain ⟨o,hx,hc,hnc,hd⟩:=I;have hpass:=V.pass (.ref x) C
 repeat (first|rw[refuse_eq]|(rw[hpass])|(with_reducible refine T2 hx ?_;rw[hc])|with_reducible refine wpAny_mroOf_exc hC ?_|(with_reducible refine hl.here ?_)|wp_step)
 rcases hd with ⟨hdn,hmA⟩|⟨dx,hdx,hne,hns⟩
 ·
  rw[hdn,SI (by simp[typeHasDict])]
  split
  ·rename_i hcd
   exact au hcd
  split
  ·rename_i c hcd
   exact TL hcd<|hnc c
  ·have HN:(h.push {cls:=.type "dict",data:=.dict #[]}).get? x=KX o:=Su _ hx
   have hxs:=Tz<|TR hx;refine R7<|wpAny_alloc' ?_;refine R7<|wpAny_update' HN ?_;refine Sg ?_;have hgd:((h.push {cls:=.type "dict",data:=.dict #[]}).update x λo=>{cls:=o.cls,dict:=KX h.objs.size,data:=o.data,slots:=o.slots}).get? h.objs.size
     =KX {cls:=.type "dict",data:=.dict #[]}:=
    (Z0 _ _ _ _ hxs.symm).trans (aav rfl rfl);have hnd:((h.push {cls:=.type "dict",data:=.dict #[]}).update x λo=>{cls:=o.cls,dict:=KX h.objs.size,data:=o.data,slots:=o.slots}).Ns h.objs.size (λu0=>Sd):=
    ⟨_,#[],_,hgd,rfl,λe he=>TL he (by simp),λu0=>rfl⟩;refine R7<|Sg<|R7<|wpAny_nsSet1 (Heap.Ns1.of_empty hnd) λh' hn' hs=> ?_;obtain ⟨oD,esD,epD,hoD,hdD,hcD⟩:=hn'.count<|Vy name v XB;refine R7 (YX hoD (by rw[hdD];exact Y0<|Ss hcD (by rw[TC,Wg,T6];decide)) ?_)
   wp_walk
   have hx':h'.get? x=KX {cls:=o.cls,dict:=KX h.objs.size,data:=o.data,slots:=o.slots}:=?_;refine hq h' _ ⟨{cls:=o.cls,dict:=KX h.objs.size,data:=o.data,slots:=o.slots},hx',hc,hnc,.inr ⟨h.objs.size,rfl,hxs.symm,?_⟩⟩ (λb ob hbx O hb=> ?_)
    (λeT h₀=>by obtain rfl:o=eT:=R9 (hx.symm.trans h₀);exact ⟨_,hx',rfl,rfl,rfl,.inr ⟨_,rfl,Xq<|SN _⟩⟩)
   ·obtain ⟨o',es,ep,e1,e2,e3,eu,e4⟩:=hn'
    exact ⟨o',es,ep,e1,e2,e3,eu,λy=>by rw[e4 y];by_cases hy:y=name<;>simp[hmA]⟩
   ·exact(hs.2 b<|Tz<|TR hb).trans<|(Z0 _ _ _ _ hbx).trans<|Su _ hb
   ·refine(hs.2 x hxs).trans<|U9 _ HN ?_
    have hfr:=(Heap.get?_some_iff.mp hx).2;obtain ⟨oc,od,odt,osl⟩:=o
    cases odt<;>first|rfl|exact hfr
 ·
  rw[hdx];refine Sg ?_;refine R7<|Sg<|R7<|wpAny_nsSet1 hns λh' hn' hs=> ?_;obtain ⟨oD,esD,epD,hoD,hdD,hcD⟩:=hn'.count<|Vy name v hw;refine R7 (YX hoD (by rw[hdD];exact Y0<|Ss hcD (by rw[TC];exact Sb ‹_› (by decide))) ?_)
  wp_walk
  refine hq h' _ ⟨o,(hs.2 x hne.symm).trans hx,hc,hnc,.inr ⟨dx,hdx,hne,hn'⟩⟩ (λb ob O hbd hb=> ?_)
   (λeT h₀=>⟨eT,(hs.2 x hne.symm).trans h₀,rfl,rfl,rfl,.inl rfl⟩);exact(hs.2 b<|hbd o dx hx hdx).trans hb
theorem Ay(V:jG bm){nameV:Se}{Q:TZ->Sn->Prop}
  (hC:h.get? C=KX (UH nm q C N bs bm R8 sn sub ab col dd k0 k1 k2 k3 k5 newId)) (hx:h.get? x=KX o) (hc:o.cls=.ref C) (hq:Q () ⟨h,g,d,t,os⟩):
  Sm M A (Uy "object.__setattr__" ⟨[.ref x,nameV,v],[]⟩) Q E ⟨h,g,d,t,os⟩:=by
 have SF:=YQ;have hcB:(Vi C::bm).contains (.type "object")=true:=by rw[UU,V.K9,X8]
 unfold Uy;rw[SF.kind,SF.split];refine R7 ?_
 ·unfold isInstance
  repeat (first|(with_reducible refine T2 hx ?_;rw[hc])|(with_reducible refine VC hC ?_;rw[hcB])|wp_step)
  exact hq
theorem IM(V:jG bm){Q:TZ->Sn->Prop}{ns:R5 SS}
  (hC:h.get? C=KX (UH nm q C N bs bm R8 sn sub ab col dd k0 k1 k2 k3 k5 newId)) (hsa:Looks (Tj prog w) h (Wh (.ref C) "__setattr__") (KX<|.builtin "object.__setattr__")) (hl:Looks (Tj prog w) h (Wh (.ref C) name) Sd) (hxC:x≠C) (I:h.Inst x C mA)
  (hq:∀h' tk',h'.Inst x C (λy=>if y=name then KX v else mA y)->
   (∀b o,b≠x->(∀eT dx,h.get? x=KX eT->eT.dict=KX dx->b≠dx)->h.get? b=KX o->h'.get? b=KX o)->
   (∀eT,h.get? x=KX eT->∃ki,h'.get? x=KX ki/\ki.cls=eT.cls/\ki.data=eT.data/\ki.slots=eT.slots/\(ki.dict=eT.dict\/∃dx,ki.dict=KX dx/\h.get? dx=Sd))->Q () ⟨h',g,d,tk',os⟩) (hw:Within mA ns) (hsz:ns.length<=UZ):
  Sm (Tj prog w) A (setAttr (.ref x) name v) Q E ⟨h,g,d,t,os⟩:=by
 have SF:=YQ;obtain ⟨o,hx,hc,_⟩:=id I;have f3:=SF.slot.bind<|.ref x
 repeat (any_goals (first|assumption|(with_reducible refine T2 hx ?_;rw[hc])|(with_reducible refine hsa.here ?_)|wp_step))
 refine XW SF.slot.plain SF.entry<|Ay V hC hx hc<|vY V hC hl hxC I (λh' tk' I' hk hsame=> ?_) hw hsz
 repeat (any_goals (first|assumption|wp_step))
 exact hq h' tk' I' hk hsame
end
end
noncomputable section
open PySem PySem.W PySem.Spec PySem.Calls PyProof.Rows
variable{W W' aj W₀ aT W'':Wd}{n k j c f ep k1 jn k2 c':Sf}{S:bf}{s ai s':Sn}{A:Vj}{E Q G:Se->Sn->Prop}{tb:gh}{T:cU}{ks:R5 (SS×VK)}{env:Xz}{P:PD}{loc loc':Loc}{r:Rec}{H H' H1 H2:Hp}{a d C D I ax tp l1 TI TO i1 i2:SJ}{p pos p' p1 p2 ap p3 p0 p6:Vu}{v q u it:Se}{l vs xs acc vs':R5 AV}{sv sv0 sv':SV}{ℓ abx:aF}{es:R5 Sk}{y e tg z el ox fE it2 it1:SE}{prog:Wm}{w:Yd}{fl:Fl}{b neg:Sq}{α β:Type}{o:Xl}{t tk:Tok}{K K':SK->Prop}{M:Model}{us ws:R5 Se}{as:R5 SJ}{sc:Xk}{R:ZG->Sn->Prop}{h' B:Tu}{Φ Φ':Wd->Prop}{es':Td (SK×Se)}{cap:R5 (Sh Sf)}{t':Uk}{kk elt:ME}{mA:SS->Sh Se}{name at' nm:SS}{ℓk:Sf->aF}{vk:VK}{J:Sf->Wd->Prop}{Jm:Sf->Se->Wd->Prop}{ts cs:R5 SE}{Z:Prop}{bb sts:R5 T1}{src:Src}{newId:WO}{ifs:R5 ME}
theorem CR{h:Tu}{m:SS->Sh Se}(n:h.Ns1 d m)(hm:m name=KX v):∃od,h.get? d=KX od/\aac name od=KX (KX v):=by
 obtain ⟨o,es,ep,e,hd,hk,hf⟩:=n.ns;refine ⟨o,e,?_⟩;have:=hf name;rw[hm] at this;unfold nsFind findBy at this;rw[←Array.find?_toList] at this;unfold aac;rw[hd];dsimp only
 cases q:es.toList.find? (·.key.isStr name) with
 |none=>rw[q] at this;exact au this
 |some en=>rw[q] at this;simp only[Option.map_some] at this;simp[this]
structure XI(C:SJ)(B:Tu)(W:Wd)(m:Sf)(e:SJ)(mA:SS->Sh Se):Prop where
 kb:∀b o,B.get? b=KX o->W.h.get? b=KX o
 fe:B.get? e=Sd
 le:W.ah e=KX (.bx m)
 ob:∃o,W.h.get? e=KX o/\o.cls=.ref C/\(∃vs,o.data=.fields vs)/\((o.dict=Sd/\∀n,mA n=Sd)\/∃d,o.dict=KX d/\d≠e/\B.get? d=Sd/\W.ah d=KX (.bx m)/\W.h.Ns1 d mA)
section
variable{m:Sf}{e:SJ}
theorem Ns1.to{h:Tu}(x:h.Ns1 d mA)(k:∀o,h.get? d=KX o->h'.get? d=KX o):h'.Ns1 d mA:=x.elim λo q=>q.elim λes q=>q.elim λep q=>⟨o,es,ep,k o q.1,q.2⟩
theorem XI.to(x:XI C B W m e mA)(k0:∀b o,B.get? b=KX o->W'.h.get? b=KX o)(k:∀b o,W.h.get? b=KX o->W.ah b=KX (.bx m)->W'.h.get? b=KX o/\W'.ah b=KX (.bx m)):XI C B W' m e mA:=
 x.ob.elim λo q=>have z:=k _ _ q.1 x.le;⟨k0,x.fe,z.2,o,z.1,q.2.1,q.2.2.1,q.2.2.2.imp id λr=>r.elim λd r=>⟨d,r.1,r.2.1,r.2.2.1,r.2.2.2.2.elim λo' w=>w.elim λes w=>w.elim λep w=>(k _ _ w.1 r.2.2.2.1).2,Ns1.to r.2.2.2.2 λo' h=>(k _ _ h r.2.2.2.1).1⟩⟩
theorem XI.mv(x:XI C B W m e mA)(v:W.Mv iz W'):XI C B W' m e mA:=x.to (λb o h=>v.keep b o (x.kb b o h) λu0 u1=>id) λb o h l=>⟨v.keep b o h λu0 u1=>id,(v.ah _ _ h).trans l⟩
theorem XI.d8(x:XI C B W m e mA)(v:W.Hid W'):XI C B W' m e mA:=x.to (λb o h=>v.keep b o<|x.kb b o h) λb o h l=>⟨v.keep b o h,v.own h l rfl⟩
theorem XI.kp(x:XI C B W m e mA)(v:W.Kp aF.own W')(hh:W'.h=W.h):XI C B W' m e mA:=x.to (λb o h=>hh▸x.kb b o h) λb o h l=>v.lk _ _ _ ⟨rfl,λe=>nomatch e⟩ h l
end
noncomputable def GP(p:Sf->Vu):R5 Stmt:=
 [.Expr (.Call (.Attribute (.Name "Exception" (p 0)) "__init__" (p 1)) [.Name "self" (p 2),.Name "message" (p 3)] [] (p 4)) (p 5),
  .Assign [.Attribute (.Name "self" (p 6)) "message" (p 7)] (.Name "message" (p 8)) (p 9),
  .Assign [.Attribute (.Name "self" (p 10)) "spot" (p 11)] (.Name "spot" (p 12)) (p 13)]
noncomputable def Ha(p:Sf->Vu)(c:Sf):R5 Stmt:=
 [.Expr (.Call (.Attribute (.Name "LendError" (p 0)) "__init__" (p 1)) [.Name "self" (p 2),.BinOp (.BinOp (.Name "kind" (p 3)) .Add (.Constant (.str ": ") c<|p 4)<|p 5) .Add (.Name "message" (p 6))<|p 7,.Name "spot" (p 8)] [] (p 9)) (p 10),
  .Assign [.Attribute (.Name "self" (p 11)) "kind" (p 12)] (.Name "kind" (p 13)) (p 14),
  .Assign [.Attribute (.Name "self" (p 15)) "rows" (p 16)] (.Call (.Name "tuple" (p 17)) [.Name "rows" (p 18)] [] (p 19)) (p 20)]
structure vr(S:bf)(T:cU)(tb:gh) where
 fB:Sf
 fL:Sf
 dB:iO
 dL:iO
 FB:mV S T tb fB dB
 FL:mV S T tb fL dL
 OJ:dB.ar=5
 PH:dL.ar=3
 pB:Sf->Vu
 cB:Sf
 bB:FB.body=Ha pB cB
 lB:((pB 1).endLine==(pB 9).line)=R8
 pL:Sf->Vu
 bL:FL.body=GP pL
 lL:((pL 1).endLine==(pL 4).line)=R8
 vB:cA (bJ FB.fd.scope.names) 0 "self"=R8/\cA (bJ FB.fd.scope.names) 1 "kind"=R8/\cA (bJ FB.fd.scope.names) 2 "message"=R8/\cA (bJ FB.fd.scope.names) 3 "spot"=R8/\cA (bJ FB.fd.scope.names) 4 "rows"=R8
 nB:eP (bJ FB.fd.scope.names) "LendError"=R8/\eP (bJ FB.fd.scope.names) "tuple"=R8
 vL:cA (bJ FL.fd.scope.names) 0 "self"=R8/\cA (bJ FL.fd.scope.names) 1 "message"=R8/\cA (bJ FL.fd.scope.names) 2 "spot"=R8
 nL:eP (bJ FL.fd.scope.names) "Exception"=R8
 nm:SS
 q:SS
 N:SJ
 bs:R5 Se
 bm:R5 Se
 sn:R5 SS
 sub:R5 Se
 ab:Sq
 col:Sh Sq
 dd:Sh SJ
 k0:Sh Se
 k1:Sh Se
 k2:Sh Se
 k3:Sh Se
 k5:Sh Se
 hC:T.base.get? S.xc=KX (UH nm q S.xc N bs bm R8 sn sub ab col dd k0 k1 k2 k3 k5 "Exception.__new__")
 G7:S.xc≠T.tp
 V:jG bm
 mN:SS->Sh Se
 hN:T.base.Ns N mN
 neN:N≠T.tp
 hi:mN "__init__"=KX (S.bK fB)
 fc:FB.o.cls=.type "function"
 at_:TB T.K (.ref S.xc) "message"=KX Sd/\TB T.K (.ref S.xc) "spot"=KX Sd/\TB T.K (.ref S.xc) "kind"=KX Sd/\TB T.K (.ref S.xc) "rows"=KX Sd
 sa:TB T.K (.ref S.xc) "__setattr__"=KX (KX<|.builtin "object.__setattr__")
 L:SJ
 mc:Se
 Pa:T.mg "LendError"=KX (.ref L)
 OE:readsIn T.K L mc=R8
 PI:Xj T.K (.ref L) "__getattribute__"=KX (KX<|.builtin "type.__getattribute__")
 OU:aaf T.K (.ref L) mc "__init__"=KX (.val<|S.bK fL)
 OI:T.mg "Exception"=Sd
 Pw:T.mb "Exception"=KX (.type "Exception")
 O9:aaf T.K (.type "Exception") (.type "type") "__init__"=KX (.val<|.builtin "Exception.__init__")
 OX:TB T.K (.type "type") "__getattribute__"=KX (KX<|.builtin "type.__getattribute__")
section
variable{Q:WX->Sn->Prop}{m:Sf}{e:SJ}
theorem HR.GK(hr:HR S W H)(hH:H[m]? =KX .dead)(mv:W.Mv (·=.bx m) W'):HR S W' H:=
 ⟨hr.len.trans mv.N.symm,λk x hx=>if q:k=m then R9 (hH.symm.trans ((R6 (λk=>H[k]?) q).symm.trans hx))▸trivial
  else(hr.at_ k x hx).kp (mv.lA λe=>nomatch e) (hr.len▸(List.getElem?_eq_some_iff.mp hx).1) λℓ h e=>q ((R6 (aF.ofEntry k) e).mp h).symm⟩
theorem St.GK(sx:St S T W env ks loc H)(hH:H[m]? =KX .dead)(mv:W.Mv (·=.bx m) W'):St S T W' env ks loc H:=
 ⟨sx.ok.mv mv (λe=>nomatch e) (λe=>nomatch e),sx.hr.GK hH mv,sx.fr.mv mv (λe=>nomatch e) λℓ h e=>nomatch (R6 aF.bC e).symm.trans h⟩
theorem oO(X:vr S T tb)(st:bU S T P tb){x:SS}{Rq:Se->Prop}{ns:R5 SS}(hs:s.heap=W.h)(sx:St S T W env ks loc H)(hH:H[m]? =KX .dead)(hρ:W.ρ m=e)(xi:XI S.xc B W m e mA)(cv:cA ks 0 "self"=R8)(hl:loc[0]? =KX (.fr<|.ref m))(fx:TB T.K (.ref S.xc) x=KX Sd)(nc:dP y=Sj)
  (hev:∀{G:Se->Sn->Prop},(∀q s1 W1,s1.heap=W1.h->s1.gens=s.gens->s1.os=s.os->W.Mv iz W1->Rq q->G q s1)->Sm (md S) A (TN y env) G E s) (hw:Within mA ns) (hsz:ns.length<=100)
  (g:∀q s' W',Rq q->s'.heap=W'.h->s'.gens=s.gens->s'.os=s.os->W.Go W'->St S T W' env ks loc H->W'.ρ m=e->XI S.xc B W' m e (λy=>if y=x then KX q else mA y)->Q .next s'):
  Sm (md S) A (Ve (.Assign [.Attribute (.Name "self" p) x p1] y p') env) Q E s:=by
 refine UR (hev λq s1 W1 a1 a2 a3 mv rq=> ?_)<|dD nc _ _ _;have sx1:=sx.mv mv λu0=>id;have xi1:=xi.mv mv;have hρ1:W1.ρ m=e:=by rw[mv.dq];exact hρ
 refine TK (eR a1 sx1.fr cv hl λqs rs=> ?_)<|eZ cv;refine rs.nI λu0=> ?_;rw[hρ1];have iq:=sx1.ok.iq st;obtain ⟨hh,gg,dr,t,os⟩:=s1;subst a1;have hC:=(sx1.ok.base _ _ X.hC X.G7);have hxC:e≠S.xc:=λq=>by have:=xi1.le;rw[q,hC.2] at this;exact au this
 obtain ⟨o,o1,o2,⟨vs,o3⟩,o4⟩:=xi1.ob;have inst:W1.h.Inst e S.xc mA:=⟨o,o1,o2,(λc q=>by rw[o3] at q;cases q),o4.imp id λ⟨d,d1,d2,_,_,d5⟩=>⟨d,d1,d2,d5⟩⟩;refine IM X.V hC.1 (WD iq X.sa) (WD iq fx) hxC inst (λh' tk' I' hk hsame=> ?_) hw (by rw[T6];exact Ss ‹_› (by decide));obtain ⟨o',p1',p2',p3',p4'⟩:=I';obtain ⟨oo,q1,q2,q3,q4,q5⟩:=hsame o o1;rw[p1'] at q1
 cases q1
 rcases p4' with ⟨_,p5⟩|⟨d,d1,d2,d3⟩
 ·have:=p5 x;simp at this
 have dOld:∀ob,W1.h.get? d=KX ob->W1.ah d=KX (.bx m):=λob hob=>by
  rcases q5 with q5|⟨dx,q5,q6⟩
  ·rw[d1] at q5
   rcases o4 with ⟨o4,_⟩|⟨d',e1,_,_,e4,_⟩
   ·rw[o4] at q5;cases q5
   ·rw[e1] at q5;cases q5;exact e4
  ·rw[d1] at q5;cases q5;rw[q6] at hob;exact au hob
 have dB:B.get? d=none:=by
  rcases q5 with q5|⟨dx,q5,q6⟩
  ·rw[d1] at q5
   rcases o4 with ⟨o4,_⟩|⟨d',e1,_,e3,_,_⟩
   ·rw[o4] at q5;cases q5
   ·rw[e1] at q5;cases q5;exact e3
  ·rw[d1] at q5;cases q5
   cases hb:B.get? d with
   |none=>rfl
   |some ob=>have:=xi1.kb _ _ hb;rw[q6] at this;exact au this
 have notDx:∀b,W1.ah b≠KX (.bx m)->∀eT dx,W1.h.get? e=KX eT->eT.dict=KX dx->b≠dx:=by
  intro b hb eT dx h0 h1 q;rw[o1] at h0;obtain rfl:=R9 h0
  rcases o4 with ⟨o4,_⟩|⟨d',e1,_,_,e4,_⟩
  ·rw[o4] at h1;exact au h1
  ·rw[e1] at h1;obtain rfl:=R9 h1;exact hb<|q▸e4
 have mv2:W1.Mv (·=.bx m) (W1.gI h' d<|.bx m):=by
  refine ⟨λb ob hb hn=> ?_,λb ob hb=> ?_,rfl,rfl⟩
  ·have nl:=λq=>hn _ q rfl
   exact hk b ob (λq=>nl<|q▸xi1.le) (notDx b nl) hb
  ·by_cases q:b=d
   ·subst q;simp[Wd.gI,dOld ob hb]
   ·simp[Wd.gI,q,hb]
 refine g q {heap:=h',gens:=gg,drawn:=dr,toks:=tk',os:=os} (W1.gI h' d<|.bx m) rq rfl a2 a3 ((mv.go id λu0=>id).trans (mv2.go (by simp) λu0=>by simp)) (sx1.GK hH mv2) hρ1 ?_;exact{
  kb:=λb ob hb=>hk b ob (λq=>by rw[q,xi1.fe] at hb;exact au hb) (λeT dx h0 h1 q=>by
   rw[o1] at h0;obtain rfl:=R9 h0
   rcases o4 with ⟨o4,_⟩|⟨d',e1,_,e3,_,_⟩
   ·rw[o4] at h1;exact au h1
   ·rw[e1] at h1;obtain rfl:=R9 h1;rw[q,e3] at hb;exact au hb) (xi1.kb b ob hb)
  fe:=xi1.fe
  le:=by simp[Wd.gI,o1,xi1.le]
  ob:=⟨o',p1',p2',⟨vs,q3.trans o3⟩,.inr ⟨d,d1,d2,dB,Wd.mJ,d3⟩⟩}
end
section
variable{m:Sf}{e:SJ}
theorem L6{pl:Sem Sq}{Q:Se×R5 Se->Sn->Prop}(X:T.K.In s.heap)(ga:TB T.K (.type "type") "__getattribute__"=KX (KX<|.builtin "type.__getattribute__"))(fc:aaf T.K (.type "Exception") (.type "type") "__init__"=KX (.val<|.builtin "Exception.__init__"))
  (h:Q (.builtin "Exception.__init__",[]) {s with toks:=s.toks+1}):Sm (md S) A (Y1 (.type "Exception") "__init__" pl) Q E s:=by have ht:Looks (md S) s.heap (typeOf<|.type "Exception") (.type "type"):=abe (by kernel_rfl);have hsp:Looks (md S) s.heap (specialOf (.type "Exception") "__getattribute__") (KX<|.builtin "type.__getattribute__"):=ht.andThen<|WD X ga;refine R7<|hsp.here ?_;refine gc canon_tga ?_;refine R7<|TS (cls_open X (abe (by kernel_rfl)) ht ga (looks_hook X rfl) (by kernel_rfl) fc<|Sg ?_) (λu0 u1 z=>Sg z) λu0 u1 z=>z;show Sm _ _ (handedOut<|.builtin "Exception.__init__") _ _ _;rw[aad rfl];exact Sg h
theorem Ag(st:bU S T P tb){x:SS}(hs:s.heap=W.h)(ok:dU S T W)(F:FR S W env ks loc)(hc:eP ks x=R8)(hm:T.mg x=KX v)(g:Q v s):Sm (md S) A (TN (.Name x p) env) Q E s:=
 have k:=F.eP hc
 XZ F.kind k.1 (loadGlobal_global (F.gl▸hs▸ok.ns st.gl st.gl') hm g) k.2
theorem Mz(X:vr S T tb)(st:bU S T P tb){q1 q2:Se}{msg:R5 Sf}{x2:AV}(rm:aN A (n+1))(hs:s.heap=W.h)(ok:dU S T W)(hr:HR S W H)(hH:H[m]? =KX .dead)(hm:m<W.N)(hρ:W.ρ m=e)(xi:XI S.xc B W m e λu0=>Sd)
  (he0:∃t:SJ,W.h.get? e=KX {cls:=.ref S.xc,data:=.fields #[.ref t,.none,.none,.none,.bool Sj,.none]}) (r1:RV S W q1 (.str msg)) (r2:RV S W q2 x2)
  (g:∀s' W' qa qb,s'.heap=W'.h->s'.gens=s.gens->s'.os=s.os->W.Fk W'->dU S T W'->HR S W' H->XI S.xc B W' m e (λy=>if y=("spot":SS) then KX qb else if y=("message":SS) then KX qa else Sd)->R (.ok<|.ret .none) s'):
  Um (md S) A (.call (S.bK X.fL) ⟨[.ref e,q1,q2],[]⟩) R s:=by
 have rr:=aA.cons (hρ▸RV.ref hm)<|aA.cons r1<|aA.cons r2 aA.nil;have ha:kq X.dL [.ref m,.str msg,x2]=KX [.ref m,.str msg,x2]:=by unfold kq;rw[X.PH];simp
 refine call_in (st:=st) X.FL rm hs ok hr rr ha λenv ai aj a1 a2 a3 d8 rm' sx=> ?_;have l0:([AV.ref m,AV.str msg,x2].map SV.fr++S9 (X.dL.fH-X.dL.ar) SV.un)[0]? =KX (.fr<|.ref m):=rfl;have l1:([AV.ref m,AV.str msg,x2].map SV.fr++S9 (X.dL.fH-X.dL.ar) SV.un)[1]? =KX (.fr<|.str msg):=rfl;have l2:([AV.ref m,AV.str msg,x2].map SV.fr++S9 (X.dL.fH-X.dL.ar) SV.un)[2]? =KX (.fr x2):=rfl;generalize ([AV.ref m,AV.str msg,x2].map SV.fr++S9 (X.dL.fH-X.dL.ar) SV.un)=loc at sx l0 l1 l2;obtain ⟨v0,v1,v2⟩:=X.vL;have xi1:=xi.d8 d8;have hρ1:aj.ρ m=e:=by rw[d8.dq];exact hρ
 rw[X.bL];have kin1:=a1▸sx.ok.iq st;refine Uv<|UX (gK rfl X.lL rfl (by exact Sa rfl) (kM (st:=st) a1 sx.ok sx.fr X.nL X.OI X.Pw λpl=>L6 kin1 X.OX X.O9 ?_)) sx.fr.inter<|dD rfl _ _ _;refine(ft).run rfl (UB<|Tc (TK (eR (s:={ai with toks:=ai.toks+1}) a1 sx.fr v0 l0 λqs rs=>Tc (TK (eR a1 sx.fr v1 l1 λqm rqm=>To ⟨trivial,?_⟩)<|eZ v1) rfl)<|eZ v0) rfl);refine rs.nI λu0=> ?_;rw[hρ1];obtain ⟨t0,he0⟩:=he0;have he1:=d8.keep _ _ he0;obtain ⟨hh,gg,dr,t,os⟩:=ai;subst a1;have hC:=sx.ok.base _ _ X.hC X.G7;refine Ko X.V hC.1 he1 λh' o' q1' q2' q3' q4' q5'=> ?_;have mv:aj.Mv (·=.bx m) (aj.grow h'):=Wd.mM λb o hb hn=>q5' b o (λq=>hn _ (q▸xi1.le) rfl) hb;have sx2:=sx.GK hH mv;have xi2:XI S.xc B (aj.grow h') m e (λu0=>Sd):={
  kb:=λb o hb=>q5' b o (λq=>by rw[q,xi1.fe] at hb;exact au hb) (xi1.kb b o hb)
  fe:=xi1.fe
  le:=(mv.ah _ _ he1).trans xi1.le
  ob:=⟨o',q1',q2',q3',.inl ⟨q4',λu0=>rfl⟩⟩};have nmv:∀{x:SS} {i:Sf} {v:AV} {p:Vu} {s2:Sn} {W2:Wd} {E:Se->Sn->Prop},cA (bJ X.FL.fd.scope.names) i x=R8->loc[i]? =KX (.fr v)->s2.heap=W2.h->St S T W2 env (bJ X.FL.fd.scope.names) loc H->∀{G:Se->Sn->Prop},(∀q s1 W1,s1.heap=W1.h->s1.gens=s2.gens->s1.os=s2.os->W2.Mv iz W1->Y2->G q s1)->Sm (md S) (A.deeper env) (TN (.Name x p) env) G E s2:=
  fun{_ _ _ _ _ _ _} cv hl e2 sx2 {G} gg=>TK (eR e2 sx2.fr cv hl λq O=>gg q _ _ e2 rfl rfl (.refl _ _) trivial)<|eZ cv;refine Uv<|oO X st rfl sx2 hH hρ1 xi2 v0 l0 X.at_.1 rfl (nmv v1 l1 rfl sx2) XB (Ui _) λqa s3 W3 O b1 b2 b3 b4 sx3 hρ3 xi3=> ?_;refine Uv<|oO X st b1 sx3 hH hρ3 xi3 v0 l0 X.at_.2.1 rfl (nmv v2 l2 b1 sx3) (Vy _ _ XB) (by decide) λqb s4 W4 O c1 c2 c3 c4 sx4 hρ4 xi4=>Wt ?_;have go:=(mv.go (by simp) λu0=>by simp).trans<|b4.trans c4;have kb:=d8.CB go;exact g s4 (W.back W4) qa qb c1 (by rw[c2,b2];exact a2) (by rw[c3,b3];exact a3) (d8.fk go) (sx4.ok.kp kb nV) (sx4.hr.kp kb rfl λu0 u1=>kJ)<|xi4.kp kb rfl
end
section
variable{m:Sf}{e:SJ}
theorem LI(X:vr S T tb)(st:bU S T P tb){q1 q2 q3 q4:Se}{kd msg:R5 Sf}{x3 x4:AV}{rs:R5 AV}(rm:aN A (n+2))(hs:s.heap=W.h)(ok:dU S T W)(hr:HR S W H)(hH:H[m]? =KX .dead)(hm:m<W.N)(hρ:W.ρ m=e)(xi:XI S.xc B W m e λu0=>Sd)
  (he0:∃t:SJ,W.h.get? e=KX {cls:=.ref S.xc,data:=.fields #[.ref t,.none,.none,.none,.bool Sj,.none]}) (r1:RV S W q1 (.str kd)) (r2:RV S W q2 (.str msg)) (r3:RV S W q3 x3) (r4:RV S W q4 x4) (hx4:x4=.lst rs\/x4=.tup rs) (z1:aw (kd.length+2)=R8) (z2:aw msg.length=R8) (z3:aw rs.length=R8)
  (g:∀s' W' mA (kS:SS) t,s'.heap=W'.h->s'.gens=s.gens->s'.os=s.os->XI S.xc B W' m e mA->mA ("kind":SS)=KX (.str kS t)->kS.cps.toList=kd->R (.ok<|.ret .none) s'):
  Um (md S) A (.call (S.bK X.fB) ⟨[.ref e,q1,q2,q3,q4],[]⟩) R s:=by
 have rr:=aA.cons (hρ▸RV.ref hm)<|aA.cons r1<|aA.cons r2<|aA.cons r3<|aA.cons r4 aA.nil;have ha:kq X.dB [.ref m,.str kd,.str msg,x3,x4]=KX [.ref m,.str kd,.str msg,x3,x4]:=by unfold kq;rw[X.OJ];simp
 refine call_in (st:=st) X.FB rm hs ok hr rr ha λenv ai aj a1 a2 a3 d8 rm' sx=> ?_;have l0:([AV.ref m,AV.str kd,AV.str msg,x3,x4].map SV.fr++S9 (X.dB.fH-X.dB.ar) SV.un)[0]? =KX (.fr<|.ref m):=rfl;have l1:([AV.ref m,AV.str kd,AV.str msg,x3,x4].map SV.fr++S9 (X.dB.fH-X.dB.ar) SV.un)[1]? =KX (.fr<|.str kd):=rfl;have l2:([AV.ref m,AV.str kd,AV.str msg,x3,x4].map SV.fr++S9 (X.dB.fH-X.dB.ar) SV.un)[2]? =KX (.fr<|.str msg):=rfl;have l3:([AV.ref m,AV.str kd,AV.str msg,x3,x4].map SV.fr++S9 (X.dB.fH-X.dB.ar) SV.un)[3]? =KX (.fr x3):=rfl;have l4:([AV.ref m,AV.str kd,AV.str msg,x3,x4].map SV.fr++S9 (X.dB.fH-X.dB.ar) SV.un)[4]? =KX (.fr x4):=rfl;generalize ([AV.ref m,AV.str kd,AV.str msg,x3,x4].map SV.fr++S9 (X.dB.fH-X.dB.ar) SV.un)=loc at sx l0 l1 l2 l3 l4;obtain ⟨v0,v1,v2,v3,v4⟩:=X.vB;have xi1:=xi.d8 d8;have hρ1:aj.ρ m=e:=by rw[d8.dq];exact hρ
 obtain ⟨t0,he0⟩:=he0;have he1:=d8.keep _ _ he0;rw[X.bB];have z1':=by have:=cJ z1;exact Sz<|Sb (S0 _ _) ‹_›
 refine Uv<|UX (gK rfl X.lB rfl (by exact Sa rfl) (Ag st a1 sx.ok sx.fr X.nB.1 X.Pa λpl=> ?_)) sx.fr.inter<|dD rfl _ _ _;obtain ⟨fa,ef⟩:=st.vP X.fL;refine method_cls (a1▸sx.ok.iq st) X.PI<|cls_value (a1▸sx.ok.iq st) X.OE X.OU (by rw[ef];rfl) ?_;refine(sd (st.xw X.fL).1).run rfl (UB<|Tc (TK (eR (s:={ai with toks:=ai.toks+1}) a1 sx.fr v0 l0 λqs rs'=>Tc (Za<|Za<|TK (eR a1 sx.fr v1 l1 λqk rk=> ?_)<|eZ v1) rfl)<|eZ v0) rfl)
 cases rs'
 rw[hρ1];refine ud (W:=aj) (v:=.str [58,32]) rfl λqc rc s2 b1 b2 b3=> ?_;refine BC (o:=.add) (x:=.str kd) (y:=.str [58,32]) (b1.trans a1) (Sv<|Bool.and_eq_true_iff.mpr ⟨z1',rfl⟩) rk rc λqa s3 W3 c1 c2 c3 c4 c5=> ?_;have sx3:=sx.mv c4 λu0=>id;have xi3:=xi1.mv c4;refine TK (eR c1 sx3.fr v2 l2 λqm rqm=> ?_)<|eZ v2;refine BC (o:=.add) (x:=.str<|kd++[58,32]) (y:=.str msg) c1 (Sv<|Bool.and_eq_true_iff.mpr ⟨(R6 aw Sy).trans z1,z2⟩) c5 rqm λqb s4 W4 d1 d2 d3 d4 d5=> ?_;have sx4:=sx3.mv d4 λu0=>id;have xi4:=xi3.mv d4;refine Tc (TK (eR d1 sx4.fr v3 l3 λqp rqp=>To ⟨d1▸sx4.ok.iq st,?_⟩)<|eZ v3) rfl;have hρ4:W4.ρ m=e:=by rw[d4.dq,c4.dq];exact hρ1
 have hm4:m<W4.N:=by rw[d4.N,c4.N,d8.N];exact hm
 have he4:=d4.keep _ _ (c4.keep _ _ he1 λu0 u1=>id) λu0 u1=>id;refine UL<|Mz X st rm' d1 sx4.ok sx4.hr hH hm4 hρ4 xi4 ⟨t0,he4⟩ d5 rqp λs5 W5 qe qf f1 f2 f3 f4 f5 f6 f7=> ?_;have sx5:=f4.st f5 f6 sx4;have hρ5:=(f4.dq m hm4).trans hρ4;have nmv:∀{x:SS} {i:Sf} {v:AV} {p:Vu} {s2:Sn} {W2:Wd} {E:Se->Sn->Prop},cA (bJ X.FB.fd.scope.names) i x=R8->loc[i]? =KX (.fr v)->s2.heap=W2.h->St S T W2 env (bJ X.FB.fd.scope.names) loc H->∀{G:Se->Sn->Prop},(∀q s1 W1,s1.heap=W1.h->s1.gens=s2.gens->s1.os=s2.os->W2.Mv iz W1->RV S W2 q v->G q s1)->Sm (md S) (A.deeper env) (TN (.Name x p) env) G E s2:=
  fun{_ _ _ _ _ _ _} cv hl e2 sx2 {G} gg=>TK (eR e2 sx2.fr cv hl λq rq=>gg q _ _ e2 rfl rfl (.refl _ _) rq)<|eZ cv;refine Uv<|oO X st f1 sx5 hH hρ5 f7 v0 l0 X.at_.2.2.1 rfl (nmv v1 l1 f1 sx5) (Vy _ _<|Vy _ _ XB) (by decide) λqk2 s6 W6 rk2 g1 g2 g3 g4 sx6 hρ6 xi6=> ?_;refine Uv<|oO (Rq:=λu0=>Y2) X st g1 sx6 hH hρ6 xi6 v0 l0 X.at_.2.2.2 rfl (fun{G} gg=> ?_) (Vy _ _<|Vy _ _<|Vy _ _ XB) (by decide) λqr s7 W7 O h1 h2 h3 h4 sx7 hρ7 xi7=>Wt ?_
 ·refine Th<|kM (st:=st) g1 sx6.ok sx6.fr X.nB.2 (st.bi .tup).1 (st.bi .tup).2 ?_
  refine(AY .tup).run rfl (UB<|Tc (TK (eR g1 sx6.fr v4 l4 λq rq=>To ⟨trivial,?_⟩)<|eZ v4) rfl);have hv:=hx4.elim (λe=>(R6 (λx=>gO .tup [x]) e).trans<|Sv z3) λe=>(R6 (λx=>gO .tup [x]) e).trans rfl;exact Ld rm'.hd g1 hv (aA.cons rq aA.nil) λq2 s8 W8 i1 i2 i3 i4 i5=>gg q2 s8 W8 i1 i2 i3 i4 trivial
 ·have go:=((c4.go id λu0=>id).trans<|d4.go id λu0=>id).trans<|f4.toGo.trans<|g4.trans h4
  have kb:=d8.CB go
  revert xi7;refine rk2.nK λkS t ek xi7=> ?_;exact g s7 (W.back W7) _ kS t h1 (by rw[h2,g2,f2,d2,c2,b2];exact a2) (by rw[h3,g3,f3,d3,c3,b3];exact a3) (xi7.kp kb rfl) (by first|rfl|(rw[SI (by decide),Sv rfl])|simp) ek
theorem HR.Mo{h:Tu}{x:SJ}(hr:HR S W H)(k:∀a o,W.h.get? a=KX o->h.get? a=KX o)(fd:W.h.get? x=Sd):HR S (W.gx h x) (H++[.dead]) where
 len:=List.length_append.trans (R6 (·+1) hr.len)
 at_:=λm e he=>if hm:m<H.length then(hr.at_ m e<|(TV hm).symm.trans he).kp (Wd.j8 k fd) (hr.len▸hm) λu0 u1=>trivial
  else by
   have lt:=(List.getElem?_eq_some_iff.mp he).1;have em:=U7 (Uj ((R6 (m<·)<|Sy).mp lt))<|Nat.not_lt.mp hm;subst em;have e1:=R9<|List.getElem?_concat_length.symm.trans he;subst e1
   trivial
theorem Ac{n':Sf}(X:vr S T tb)(st:bU S T P tb)(hl:iv S T tb r n)(hle:n<=n'+3)(rm:aN A (n'+3))(hs:s.heap=W.h)(sx:St S T W env ks loc H){gi:Sf}{f:SS}{l:R5 ME}{es:R5 SE}{kd msg:R5 Sf}{x3 x4:AV}{rs:R5 AV}(hf:f=("BorrowFault":SS))(hmg:T.mg "BorrowFault"=KX (.ref S.xc))
  (cg:jY tb ks gi f=R8) (ca:cP tb k ks l es=R8) (h1:cq r l loc H=KX ([.str kd,.str msg,x3,x4],H')) (hx4:x4=.lst rs\/x4=.tup rs) (z1:aw (kd.length+2)=R8) (z2:aw msg.length=R8) (z3:aw rs.length=R8)
  (g:EG S T env ks loc H' (.m9 kd) s W Q):Sm (md S) A (TN (.Call (.Name f p) es [] pos) env) Q E s:=by
 subst hf;have cn:=by unfold jY at cg;rw[Ta] at cg;exact cg.2
 refine Th<|Ag st hs sx.ok sx.fr cn hmg ?_;refine callArgs hl (sd st.OW) (rm.less hle) hs sx ca h1 λus ai aj a1 a2 a3 a4 a5 a6=>⟨a1▸a5.ok.iq st,?_⟩;refine a6.aU λq1 us r1 a6=> ?_;refine a6.aU λq2 us r2 a6=> ?_;refine a6.aU λq3 us r3 a6=> ?_;refine a6.aU λq4 us r4 a6=> ?_;refine a6.bN ?_;obtain ⟨hh,gg,dr,t,os⟩:=ai;subst a1;have hC:=(a5.ok.base _ _ X.hC X.G7).1;have hfI:=(a5.ok.base _ _ X.FB.ho X.FB.ne).1;refine x_call X.V hC (a5.ok.ns X.hN X.neN) (X.FB.bK▸X.hi) hfI X.fc (λh' e made=> ?_) (by rw[T6];exact(by exact Sa rfl));have mk:=Wd.j8 made.keeps made.new;have xi:XI S.xc aj.h (aj.gx h' e) aj.N e (λu0=>Sd):={
  kb:=made.keeps
  fe:=made.new
  le:=by simp[Wd.gx]
  ob:=by obtain ⟨t0,h0,_⟩:=made.there;exact ⟨_,h0,rfl,⟨_,rfl⟩,.inl ⟨rfl,λu0=>rfl⟩⟩};have hH:(H'++[HE.dead])[aj.N]? =KX .dead:=by rw[←a5.hr.len];simp
 obtain ⟨t0,h0,_⟩:=made.there;have rm2:aN (A.under<|.builtin "type.__call__" ⟨.ref S.xc::[q1,q2,q3,q4],[]⟩) (n'+2):=rm.tc;refine UL ?_;have key:=LI (R:=λrr s'=>match rr with|.ok (.ret v)=>v=.none/\Q (.ref e) s'|.ok _=>Ue|.error x=>E x s') X st rm2 (s:=⟨h',gg,dr,t,os⟩) rfl (a5.ok.kp mk trivial) (a5.hr.Mo made.keeps made.new) hH (T5 _) (by simp[Wd.gx]) xi ⟨t0,h0⟩ (r1.bE mk.toFe) (r2.bE mk.toFe) (r3.bE mk.toFe) (r4.bE mk.toFe) hx4 z1 z2 z3 λs' W' mA kS t b1 b2 b3 xi' hk hkd=>by
  refine ⟨rfl,?_⟩;obtain ⟨o,o1,o2,⟨vs,o3⟩,o4⟩:=xi'.ob
  rcases o4 with ⟨_,o4⟩|⟨d,d1,d2,d3,d4,d5⟩
  ·rw[o4] at hk;exact au hk
  obtain ⟨od,e1,e2⟩:=CR d5 hk;subst hkd;refine((g.after a2 a3 a4).grow a5 _).more (λa ob hb=>by rw[b1];exact xi'.kb a ob hb) b2 b3 ?_;exact .m9 (by rw[←b1] at o1;exact o1) (Wd.d6 xi'.fe) o2 (by unfold abk;rw[o3]) d1 (by rw[←b1] at e1;exact e1) (Wd.d6 d3) e2
 rw[X.FB.bK] at key;exact key
end
section
theorem GU(st:bU S T P tb)(he:bH S T tb r n)(rm:aN A n)(hs:s.heap=W.h)(sx:St S T W env ks loc H){o m x:Sf}{l:SE}{y a:SS}{kv:AV}{ov:Sh AV}{whole:Sem Se}{Q:Sq->Sn->Prop}(cv:cA ks o y=R8)(hy:tb.nm[x]? =KX a)(ck:aK tb k ks kk l=R8)
  (h1:r.e kk loc H=KX (kv,H')) (hl:loc[o]? =KX (.fr<|.ref m)) (hm:cK P H' m x=KX sv) (hb:pY kv sv ov)
  (g:cZ s W (λW'=>St S T W' env ks loc H') (Q<|ov.isSome !=neg)):Sm (md S) A (Wi (.Compare l [if neg then .NotIn else .In] [.Attribute (.Name y p1) a p2] p) env whole) Q E s:=by
 refine XF (eg he rm hs sx ck h1 λq ai aj a1 a2 a3 a4 a5 a6=>tF st a1 a5 cv hl hy hm λqa at1 rq tk=> ?_)<|kR rfl;have G:=(g.after a2 a3 a4);refine pY.casesOn hb (λl key e1 e2 hk e3=> ?_) λl key e1 e2 e3=> ?_
 ·subst e1 e2 e3
  exact rq.yC λad es j r1 r2 r3 r4 r5=>yx a1 rm.nH a6 hk r2 r3 r4 r5 λu0 b1 b2 b3=>Tp<|G.here a1 b1 b2 b3 a5
 ·subst e1 e2 e3
  exact rq.zC λad es j r1 r2 r3 r4 r5=>a6.eS λt=>Cs a1 r2 r3 r4 r5 λu0 b1 b2 b3=>Tp<|G.here a1 b1 b2 b3 a5
theorem NQ(he:bH S T tb r n)(rm:aN A n)(hs:s.heap=W.h)(sx:St S T W env ks loc H){m:ME}{Q:Sq->Sn->Prop}(c:aK tb k ks m e=R8)
  (hh:(bq (r.e m loc H) λv H1=>v.bR Sd λb=>KX (b,H1))=KX (b,H')) (g:cZ s W (λW'=>St S T W' env ks loc H') (Q b))
  (hi:Wi e env (TN e env)=(do let v←TN e env;YG e.pos;holding [v] (truthy v))):Sm (md S) A (Wi e env<|TN e env) Q E s:=by refine wpAny_isTrue_value (aC (λv H1 h1 h=>eg he rm hs sx c h1 λq ai aj a1 a2 a3 a4 a5 a6=> ?_) hh) hi;refine AV.gM (λb' h rq=> ?_) h (λh O=>au h) a6;have g:=(R6 (λp:Sq×Hp=>cZ s W (λW'=>St S T W' env ks loc p.2)<|Q p.1)<|R9 h).mpr g;exact rq.oZ<|Tp<|(g.after a2 a3 a4).here a1 rfl rfl rfl a5
theorem NM(ht:iG S T tb r n)(rm:aN A n)(hs:s.heap=W.h)(sx:St S T W env ks loc H){c a b:ME}{x:SE}{t:Sq}{bb:Sq}{whole:Sem Se}{Q:Sq->Sn->Prop}(cc:aK tb k ks c z=R8)(ca:aK tb k ks a x=R8)(cb:aK tb k ks b y=R8)
  (h1:r.t c loc H=KX (t,H1)) (h2:r.t (UI t a b) loc H1=KX (bb,H')) (g:cZ s W (λW'=>St S T W' env ks loc H') (Q bb)):Sm (md S) A (Wi (.IfExp z x y p) env whole) Q E s:=by
 refine R7<|ht cc rm hs sx h1 λai aj a1 a2 a3 a4 a5=> ?_
 induction t using Tb with
 |false=>exact ht cb rm a1 a5 h2<|g.after a2 a3 a4
 |true=>exact ht ca rm a1 a5 h2<|g.after a2 a3 a4
end
section
noncomputable def Na(m:ME):Bool:=ME.casesOn (motive_1:=λu0=>Sq) m (λu0=>Sj) (λu0=>Sj) (λu0=>Sj) (λu0=>Sj) (λu0=>Sj) Sj (λu0 u1 u2=>Sj) (λu0=>R8) (λu0=>Sj) (λu0=>R8) (λu0=>R8) (λu0 u1 u2=>R8) (λu0 u1 u2=>R8) (λu0 u1 u2=>R8) (λu0 u1=>Sj) (λu0 u1=>Sj) (λu0 u1=>Sj) (λu0 u1=>Sj) (λu0 u1=>Sj) (λu0 u1=>Sj) (λu0 u1=>Sj) (λu0 u1=>Sj) (λu0 u1 u2=>Sj) (λu0 u1=>Sj) (λu0 u1=>Sj) (λu0 u1 u2 u3 u4=>Sj) (λu0 u1 u2 u3 u4 u5=>Sj) (λu0 u1 u2 u3=>R8) (λu0 u1 u2=>Sj) (λu0 u1=>Sj) Sj
noncomputable def Mx(env:Xz)(e:SE):Prop:=Wi e env (TN e env)=(do let v←TN e env;YG e.pos;holding [v] (truthy v))
theorem FC{m:ME}(hm:Na m=Sj):aK tb (k+1) ks m e=R8->Mx env e:=by
 induction m using ME.casesOn<;>first
  |exact V6 hm
  |exact bc
  |exact k6 (P:=Mx env) λu0 u1 u2 u3=>rfl
  |exact aZ (P:=Mx env) λu0 u1 u2=>rfl
  |exact gk (P:=Mx env) λu0 u1 u2 u3=>rfl
  |exact fA (P:=Mx env) λu0 u1 u2=>rfl
  |exact mX (P:=Mx env) λu0 u1 u2 u3=>rfl
  |exact pH (P:=Mx env) λu0 u1 u2 u3 u4=>rfl
  |exact jU (P:=Mx env) λop x p=>vN λu0=>rfl
  |exact dn (P:=Mx env) λu0 u1 u2 u3=>rfl
  |exact bu (P:=Mx env) λu0 u1 u2 u3=>rfl
  |exact cF (P:=Mx env) λu0 u1 u2 u3 u4=>rfl
  |exact iT (P:=Mx env) λu0 u1 u2 u3 u4=>rfl
end
section
theorem uN{o:Sh SV}{kv:AV}{f:R5 (R5 AV×AV)->R5 AV->Sh β}{g:R5 (SK×AV)->SK->Sh β}{y:β}{Pp:Prop}(kf:∀l key,o=KX (.mT l)->kv=.tup key->AV.key 4 (.tup key)=R8->f l key=KX y->Pp)(kg:∀l key,o=KX (.mI l)->kv=.int key->g l key=KX y->Pp)(h:qR o kv f g=KX y):Pp:=
 bG (λs e h=>SV.uL (P:=λs=>o=KX s->Pp) (λl h e=>AV.dG (P:=λv=>kv=v->Pp) (λkey h ek=>aR (λq h=>kf l key e ek q h) h) h (λh O=>au h) rfl) h
  (λh=>SV.zG (P:=λs=>o=KX s->Pp) (λl h e=>AV.dw (P:=λv=>kv=v->Pp) (λkey h ek=>aR (λu0 h=>kg l key e ek h) h) h (λh O=>au h) rfl) h λh O=>au h) e) h
set_option tactic.hygienic true in
theorem stepT(st:bU S T P tb)(he:bH S T tb r n)(ht:iG S T tb r n):iG S T tb (step P r) (n+1):=by
 intro k ks m e A s W env loc H b H' Q E c rm1 hs sx h g;have rm:=rm1.less<|Tn n;have h:=h;have cv:∀{q:Sq×Hp},q=(b,H')->cZ s W (λW'=>St S T W' env ks loc q.2) (Q q.1):=λe=>e▸g
 revert c
 induction k using SW with
 |zero=>exact bc
 |succ k=>
 induction m using ME.casesOn
 case not a=>exact jU (P:=λe=>Sm (md S) A (Wi e env<|TN e env) Q E s) λop x p=>yj λc=>bI (λq h1 e=>wpAny_isTrue_Not<|ht c rm hs sx h1<|cv e) h
 case and l=>exact kD (P:=λe=>Sm (md S) A (Wi e env<|TN e env) Q E s) λop x p=>xC (P:=λop=>Sm (md S) A (Wi (.BoolOp op x p) env<|TN (.BoolOp op x p) env) Q E s) λc=>aa6<|N1 ht rm hs sx c h g
 case or l=>exact kD (P:=λe=>Sm (md S) A (Wi e env<|TN e env) Q E s) λop x p=>zX (P:=λop=>Sm (md S) A (Wi (.BoolOp op x p) env<|TN (.BoolOp op x p) env) Q E s) λc=>aa6<|Qy ht rm hs sx c h g
 case ite c a b=>exact sQ (P:=λe=>Sm (md S) A (Wi e env<|TN e env) Q E s) λt x y p=>ae λc c3=>ae (λc1 c2=>aC (λv H1 h1 h2=>NM ht rm hs sx c1 c2 c3 h1 h2 g) h) c
 case rZ=>exact au h
 case cmp o a b=>exact gB (P:=λe=>Sm (md S) A (Wi e env<|TN e env) Q E s) λl ops rs p=>az (P:=λops=>Sm (md S) A (Wi (.Compare l ops rs p) env<|TN (.Compare l ops rs p) env) Q E s) λop ops=>ao (P:=λops=>Sm (md S) A (Wi (.Compare l (op::ops) rs p) env<|TN (.Compare l (op::ops) rs p) env) Q E s) (az (P:=λrs=>Sm (md S) A (Wi (.Compare l [op] rs p) env<|TN (.Compare l [op] rs p) env) Q E s) λr0 rs=>ao (P:=λrs=>Sm (md S) A (Wi (.Compare l [op] (r0::rs) p) env<|TN (.Compare l [op] (r0::rs) p) env) Q E s)
   (ae λc c3=>ae (λc c2=>ae (λc0 c1=>gZ (P:=λop=>Sm (md S) A (Wi (.Compare l [op] [r0] p) env<|TN (.Compare l [op] [r0] p) env) Q E s) (aC (λx H1 h1 h=>aC (λy H2 h2 h=>bI (λz h3 e=>have e2:=R6 Xn e;Oz st he rm hs sx c1 c2 c3 h1 (h2.trans<|R6 (λh=>KX (y,h)) e2) (h3.trans<|R6 KX<|R6 VJ e) g) h) h) h) c0) c) c))
 case Ao neg kk o x z0=>exact gB (P:=λe=>Sm (md S) A (Wi e env<|TN e env) Q E s) λl ops rs p=>az (P:=λops=>Sm (md S) A (Wi (.Compare l ops rs p) env<|TN (.Compare l ops rs p) env) Q E s) λop ops=>ao (P:=λops=>Sm (md S) A (Wi (.Compare l (op::ops) rs p) env<|TN (.Compare l (op::ops) rs p) env) Q E s) (az (P:=λrs=>Sm (md S) A (Wi (.Compare l [op] rs p) env<|TN (.Compare l [op] rs p) env) Q E s) λr0 rs=>bu (P:=λr0=>Sm (md S) A (Wi (.Compare l [op] (r0::rs) p) env<|TN (.Compare l [op] (r0::rs) p) env) Q E s) λv a p2=>aZ (P:=λv=>Sm (md S) A (Wi (.Compare l [op] (.Attribute v a p2::rs) p) env<|TN (.Compare l [op] (.Attribute v a p2::rs) p) env) Q E s) λy p1=>ao (P:=λrs=>Sm (md S) A (Wi (.Compare l [op] (.Attribute (.Name y p1) a p2::rs) p) env<|TN (.Compare l [op] (.Attribute (.Name y p1) a p2::rs) p) env) Q E s)
   (ae λc c3=>ae (λc c2=>ae (λc0 c1=>gZ (P:=λop=>Sm (md S) A (Wi (.Compare l [op] [.Attribute (.Name y p1) a p2] p) env<|TN (.Compare l [op] [.Attribute (.Name y p1) a p2] p) env) Q E s) (aC (λkv H1 h1 h=>jJ (λw hl h=>AV.gS (P:=λw=>loc[o]? =KX (.fr w)->Sm (md S) A (Wi (.Compare l [if neg then .NotIn else .In] [.Attribute (.Name y p1) a p2] p) env<|TN (.Compare l [if neg then .NotIn else .In] [.Attribute (.Name y p1) a p2] p) env) Q E s)
    (λm h hl=>uN (λl' key hm ek hk e=>GU st he rm hs sx c1 (Sa c2) c3 h1 hl hm (.T l' key rfl ek hk rfl)<|cv<|R9 e) (λl' key hm ek e=>GU st he rm hs sx c1 (Sa c2) c3 h1 hl hm (.I l' key rfl ek rfl)<|cv<|R9 e) h) h (λh O=>au h) hl) h) h) c0) c) c))
 all_goals exact λc=>NQ he rm hs sx c h g<|FC rfl c
end
section
theorem N6(he:bH S T tb r n)(ht:iG S T tb r n)(hr:qS S T P tb r n):BE S T P tb (step P r) (n+1):=by
 intro k ks cap t src ifs elt y A s W env loc H H' v E G c rm1 hs sx h kont;have rm:=rm1.less<|Tn n
 revert c
 induction k using SW with
 |zero=>exact bc
 |succ k=>
 refine iT λel gs sc pos=>az λg1 gs=>rj λtg it cs as=>sY<|ao ?_;refine ae λc c7=>ae (λc c6=>ae (λc c5=>ae (λc c4=>ae (λc c3=>ae (λc1 c2=> ?_) c) c) c) c) c;refine aC (λxs H1 h1 h=>bG (λloc' hc h=>bI (λq h2 e=> ?_) h) h) h;have ev:=R6 VJ e;have eh:=R6 Xn e;subst ev eh;exact kont el tg it cs sc pos q.1 λℓ use p0 Q fin=>vt he ht hr rm hs sx c1 c2 c3 c4 c5 c6 c7 h1 hc h2 ℓ fin
end
section
@[elab_as_elim] theorem t4 {l:R5 α} {f:α->R5 α->Sh β} {y:β} {P:R5 α->Prop} (k:∀x r,f x r=KX y->P (x::r)):(Sp l Sd f:Sh β)=KX y->P l:=by
 induction l using Sp
 ·exact au
 ·exact k _ _
@[elab_as_elim] theorem Hw {l:R5 α} {b:Sh β} {y:β} {P:R5 α->Prop} (k:b=KX y->P []):(Sp l b (λu0 u1=>Sd):Sh β)=KX y->P l:=by
 induction l using Sp
 ·exact k
 ·exact au
theorem NF{f:AV->Sh β}{y:β}{P:R5 AV->Prop}(k:∀x,f x=KX y->P [x])(h:gC l f=KX y):P l:=t4 (λx r=>Hw (P:=λr=>P (x::r))<|k x) h
theorem J4{o:Sh α}{x:Sh β}{y:β}{P:Prop}(k:∀{a},o=KX a->x=KX y->P)(h:(if o.isNone then Sd else x)=KX y):P:=by
 induction o using Sl
 ·exact au h
 ·exact k rfl h
set_option tactic.hygienic true in
theorem Nk(st:bU S T P tb)(X:vr S T tb)(hmg:T.mg "BorrowFault"=KX (.ref S.xc))(hn:2<=n)(he:bH S T tb r n)(ht:iG S T tb r n)(hf:pj S T r n):bH S T tb (step P r) (n+1):=by
 intro k ks m e A s W env loc H v H' Q E c rm1 hs sx h0 g;have rm:=rm1.less<|Tn n;have hl:iv S T tb r n:=nQ he;have hr:qS S T P tb r n:=Du st (wA S T) he hf;have h:=h0;clear h0
 let G:SE->Prop:=λe=>Sm (md S) A (TN e env) Q E s
 have cv:∀{q:AV×Hp},q=(v,H')->EG S T env ks loc q.2 q.1 s W Q:=λe=>e▸g;show G e
 revert c
 induction k using SW with
 |zero=>exact bc
 |succ k=>
 revert h
 induction m using ME.casesOn
 case c x=>exact λh=>k6 (P:=G) λa b d=>λc=>ud c λq rq=>(cv<|R9 h).same hs sx rq
 case v i=>exact λh=>aZ (P:=G) λa b=>λc=>jJ (λu e h=>LC hs sx c e<|cv<|R9 h) h
 case g i=>exact λh=>aZ (P:=G) λa b=>λc=>bI (λu h1 e=>Ma st hs sx c h1<|cv e) h
 case tup l=>exact λh=>gk (P:=G) λa b d=>ae λc1 c2=>bI (λq h1 e=>NP hl rm hs sx c1 (Sa c2) h1<|cv e) h
 case lst l=>exact λh=>fA λa b=>ae λc1 c2=>bI (λq h1 e=>MV hl rm hs sx c1 (Sa c2) h1<|cv e) h
 case oL=>exact λh=>mX (P:=G) λa b p=>ao<|ao<|λc=>Nl st hs sx<|cv<|R9 h
 case not a=>exact λh=>jU (P:=G) λo x p=>yj (P:=λo=>G<|.UnaryOp o x p)<|λc=>aC (λu H1 h1 h=>AV.gM (P:=λu=>r.e a loc H=KX (u,H1)->G (.UnaryOp .Not x p)) (λb h h1=>MZ he rm hs sx c h1<|cv<|R9 h) h (λh O=>au h) h1) h
 case neg a=>exact λh=>jU (P:=G) λo x p=>vN (P:=λo=>G<|.UnaryOp o x p)<|λc=>aC (λu H1 h1 h=>AV.dw (P:=λu=>r.e a loc H=KX (u,H1)->G (.UnaryOp .USub x p)) (λb h h1=>NH he rm hs sx c h1<|cv<|R9 h) h (λh O=>au h) h1) h
 case and l=>exact λh=>kD (P:=G) λo x p=>xC (P:=λo=>G<|.BoolOp o x p)<|λc=>NX he rm hs sx c h g
 case or l=>exact λh=>kD (P:=G) λo x p=>zX (P:=λo=>G<|.BoolOp o x p)<|λc=>P8 he rm hs sx c h g
 case ite q a b=>exact λh=>sQ (P:=G) λt x y p=>ae λc c3=>ae (λc1 c2=>aC (λt H1 h1 h2=>M8 he ht rm hs sx c1 c2 c3 h1 h2 g) h) c
 case any=>exact λh=>au h
 case bin o a b=>exact λh=>pH (P:=G) λl op rr p=>ae λc c2=>ae (λc0 c1=>gZ (P:=λop=>G<|.BinOp l op rr p) (aC (λx H1 h1 h=>aC (λy H2 h2 h=>bI (λz h3 e=>Ot he rm hs sx c1 c2 h1 h2 h3<|cv e) h) h) h) c0) c
 case cmp o a b=>exact λh=>gB (P:=G) λl os rs p=>az (P:=λos=>G<|.Compare l os rs p) λop os=>ao (P:=λos=>G<|.Compare l (op::os) rs p)<|az (P:=λrs=>G<|.Compare l (op::[]) rs p) λr0 rs=>ao (P:=λrs=>G<|.Compare l (op::[]) (r0::rs) p)<|ae λc c3=>ae (λc c2=>ae (λc0 c1=>gZ (P:=λop=>G<|.Compare l [op] [r0] p) (aC (λx H1 h1 h=>aC (λy H2 h2 h=>bI (λz h3 e=>Ox st he rm hs sx c1 c2 c3 h1 h2 h3<|cv e) h) h) h) c0) c) c
 case rZ a b d=>exact λh=>gB (P:=G) λl os rs p=>az (P:=λos=>G<|.Compare l os rs p) λo1 os=>JF (P:=λo1=>G<|.Compare l (o1::os) rs p)<|az (P:=λos=>G<|.Compare l (.Lt::os) rs p) λo2 os=>EK (P:=λo2=>G<|.Compare l (.Lt::(o2::os)) rs p)<|ao (P:=λos=>G<|.Compare l (.Lt::(.LtE::os)) rs p)<|az (P:=λrs=>G<|.Compare l (.Lt::(.LtE::[])) rs p) λm0 rs=>az (P:=λrs=>G<|.Compare l (.Lt::(.LtE::[])) (m0::rs) p) λr0 rs=>ao (P:=λrs=>G<|.Compare l (.Lt::(.LtE::[])) (m0::(r0::rs)) p)<|ae λc c5=>ae (λc c4=>ae (λc c3=>ae (λc1 c2=>aC (λu H1 h1 h=>AV.dw (P:=λu=>r.e a loc H=KX (u,H1)->G (.Compare l (.Lt::(.LtE::[])) (m0::(r0::[])) p)) (λx h h1=>aC (λu H2 h2 h=>AV.dw (P:=λu=>r.e b loc H1=KX (u,H2)->G (.Compare l (.Lt::(.LtE::[])) (m0::(r0::[])) p)) (λy h h2=>if lt:x<y then aC (λu H3 h3 h=>AV.dw (P:=λu=>r.e d loc H2=KX (u,H3)->G (.Compare l (.Lt::(.LtE::[])) (m0::(r0::[])) p)) (λz h h3=>DH he rm hs sx c1 c2 c3 c4 c5 h1 h2 (.inr ⟨lt,z,h3,rfl⟩)<|cv<|R9 h) h (λh O=>au h) h3) ((Sv lt).symm.trans h) else DH he rm hs sx c1 c2 c3 c4 c5 h1 h2 (.inl ⟨lt,rfl,rfl⟩) (cv<|R9<|(SI lt).symm.trans h)) h (λh O=>au h) h2) h) h (λh O=>au h) h1) h) c) c) c
 case idx a i=>exact λh=>dn (P:=G) λl0 y0 p=>ae λc c3=>ae (λc1 c2=>aC (λx H1 h1 h=>aC (λy H2 h2 h=>AV.gS (P:=λu=>r.e a loc H=KX (u,H1)->G (.Subscript l0 y0 p)) (λm h h1=>AV.dw (P:=λu=>r.e i loc H1=KX (u,H2)->G (.Subscript l0 y0 p)) (λk h h2=>HE.xO (P:=λo=>H2[m]? =o->G (.Subscript l0 y0 p)) (λl h hb=>aR (λhi h=>bI (λz h3 e=>Mq he rm hs sx c1 c2 c3 h1 h2 hb hi h3<|cv e) h) h) h (λh O=>au h) rfl) h (λh O=>au h) h2) h (λh h1=>bI (λz h3 e=>Og he rm hs sx c1 c2 c3 h1 h2 h3<|cv e) h) h1) h) h) c
 case kH a i=>exact λh=>dn (P:=G) λx z p=>A4 (P:=λz=>G<|.Subscript x z p) λb d f p1=>fF (P:=λb=>G<|.Subscript x (.Slice b d f p1) p)<|da (P:=λd=>G<|.Subscript x (.Slice Sd d f p1) p) λy=>fF (P:=λf=>G<|.Subscript x (.Slice Sd (KX y) f p1) p)<|ae λc1 c2=>aC (λu H1 h1 h=>aC (λw H2 h2 h=>bI (λz h3 e=>AV.dG (P:=λu=>r.e a loc H=KX (u,H1)->G (.Subscript x (.Slice Sd (KX y) Sd p1) p)) (λl h3 h1=>AV.dw (P:=λu=>r.e i loc H1=KX (u,H2)->G (.Subscript x (.Slice Sd (KX y) Sd p1) p)) (λk h3 h2=>aR (λhl h3=>Nt he rm hs sx (ae (λu0 h=>h) hl) c1 c2 h1 h2<|cv<|(R6 (λz=>(z,H2))<|R9 h3).trans e) h3) h3 (λh O=>au h) h2) h3 (λh O=>au h) h1) h) h) h
 case aL a x=>exact λh=>bu (P:=G) λo y p=>ae λc c3=>ae (λc1 c2=>aC (λu H1 h1 h=>bI (λz h3 e=>Od st he rm hs sx c1 (Sa c2) c3 h1 h3<|cv e) h) h) c
 case aM gi l=>exact λh=>cF (P:=G) λf es kw pos=>aZ (P:=λf=>G<|.Call f es kw pos) λx p=>ao (P:=λkw=>G<|.Call (.Name x p) es kw pos)<|ae λc1 c2=>bG (λw hg h=>AV.qZ (P:=λu=>P.bW[gi]? =KX u->G (.Call (.Name x p) es [] pos)) (λf h hg=>aC (λvs H1 h1 h2=>Iv st hl hf rm hs sx c1 c2 hg h1 h2 g) h) h (λh O=>au h) hg) h
 case aW b l=>exact λh=>cF (P:=G) λf es kw pos=>aZ (P:=λf=>G<|.Call f es kw pos) λx p=>ao (P:=λkw=>G<|.Call (.Name x p) es kw pos)<|ae λc c3=>ae (λc1 c2=>have e:x=vE b:=Sa c1;aC (λvs H1 h1 h=>bI (λz h2 q=>Im st hl rm hs sx c2 (e▸(st.bi b).1) (e▸(st.bi b).2) c3 h1 h2<|cv q) h) h) c
 case callC gi l=>exact λh=>cF (P:=G) λf es kw pos=>aZ (P:=λf=>G<|.Call f es kw pos) λx p=>ao (P:=λkw=>G<|.Call (.Name x p) es kw pos)<|ae λc1 c2=>bG (λw hg h=>AV.wW (P:=λu=>P.bW[gi]? =KX u->G (.Call (.Name x p) es [] pos)) (λf h hg=>aC (λvs H1 h1 h2=>IH st hl hf rm1 hs sx c1 c2 hg h1 h2 g) h) h (λh O=>au h) hg) h
 case rE gi l=>exact λh=>cF (P:=G) λf es kw pos=>aZ (P:=λf=>G<|.Call f es kw pos) λx p=>ao (P:=λkw=>G<|.Call (.Name x p) es kw pos)<|ae λc c3=>ae (λc1 c2=>aC (λvs H1 h1 h=>t4 (P:=λvs=>cq r l loc H=KX (vs,H1)->G (.Call (.Name x p) es [] pos)) (λa vs h h1=>t4 (P:=λvs=>cq r l loc H=KX (a::vs,H1)->G (.Call (.Name x p) es [] pos)) (λb vs h h1=>t4 (P:=λvs=>cq r l loc H=KX (a::b::vs,H1)->G (.Call (.Name x p) es [] pos)) (λd vs h h1=>NF (P:=λvs=>cq r l loc H=KX (a::b::d::vs,H1)->G (.Call (.Name x p) es [] pos)) (λf h h1=>AV.i9 (P:=λu=>cq r l loc H=KX ([u,b,d,f],H1)->G (.Call (.Name x p) es [] pos)) (λkd h h1=>AV.i9 (P:=λu=>cq r l loc H=KX ([.str kd,u,d,f],H1)->G (.Call (.Name x p) es [] pos)) (λms h h1=>AV.dG (P:=λu=>cq r l loc H=KX ([.str kd,.str ms,d,u],H1)->G (.Call (.Name x p) es [] pos)) (λrs h h1=>aR (λz h=>ae (λz z3=>ae (λz1 z2=>(Zj hn).elim λn1 en=>Ac X st hl (Ss (SA en)<|Tn _) ((R6 (λn=>aN A<|n+1) en).mp rm1) hs sx (Sa c2) hmg c1 c3 h1 (.inr rfl) z1 z2 z3<|cv<|R9 h) z) z) h) h (λh h1=>AV.dH (P:=λu=>cq r l loc H=KX ([.str kd,.str ms,d,u],H1)->G (.Call (.Name x p) es [] pos)) (λrs h h1=>aR (λz h=>ae (λz z3=>ae (λz1 z2=>(Zj hn).elim λn1 en=>Ac X st hl (Ss (SA en)<|Tn _) ((R6 (λn=>aN A<|n+1) en).mp rm1) hs sx (Sa c2) hmg c1 c3 h1 (.inl rfl) z1 z2 z3<|cv<|R9 h) z) z) h) h (λh O=>au h) h1) h1) h (λh O=>au h) h1) h (λh O=>au h) h1) h h1) h h1) h h1) h h1) h) c
 case lO i l=>exact λh=>cF (P:=G) λf es kw pos=>aZ (P:=λf=>G<|.Call f es kw pos) λx p=>ao (P:=λkw=>G<|.Call (.Name x p) es kw pos)<|ae λc1 c2=>jJ (λw hi h=>AV.DM (P:=λu=>loc[i]? =KX (.fr u)->G (.Call (.Name x p) es [] pos)) (λf m h hi=>aC (λvs H1 h1 h2=>Jr st hl hf rm hs sx c1 c2 hi h1 h2 g) h) h (λh O=>au h) hi) h
 case aD a x l=>exact λh=>cF (P:=G) λf es kw pos=>bu (P:=λf=>G<|.Call f es kw pos) λw y ap=>ao (P:=λkw=>G<|.Call (.Attribute w y ap) es kw pos)<|ae λc c6=>ae (λc c5=>ae (λc c4=>ae (λc c3=>ae (λc1 c2=>aC (λo H1 h1 h=>bG (λf hm h=>aC (λvs H2 h2 h=>I0 st he hl hf rm hs sx c1 (Sa c2) c3 c4 c5 (Sa c6) h1 hm h2 h g) h) h) h) c) c) c) c
 case get a l=>exact λh=>cF (P:=G) λf es kw pos=>bu (P:=λf=>G<|.Call f es kw pos) λw y ap=>ao (P:=λkw=>G<|.Call (.Attribute w y ap) es kw pos)<|ae λc c5=>ae (λc c4=>ae (λc c3=>ae (λc1 c2=>gZ (P:=λy=>G<|.Call (.Attribute w y ap) es [] pos) (aC (λu H1 h1 h=>AV.IQ (P:=λu=>r.e a loc H=KX (u,H1)->G (.Call (.Attribute w ("get") ap) es [] pos)) (λmm h h1=>aC (λvs H2 h2 h=>t4 (P:=λvs=>cq r l loc H1=KX (vs,H2)->G (.Call (.Attribute w ("get") ap) es [] pos)) (λu vs h h2=>AV.dG (P:=λu=>cq r l loc H1=KX (u::vs,H2)->G (.Call (.Attribute w ("get") ap) es [] pos)) (λkk h h2=>Sp (motive:=λvs=>cq r l loc H1=KX (.tup kk::vs,H2)->(Sp vs (if AV.key 4 (.tup kk) then KX ((bX kk mm).getD .none,H2) else Sd) λd vs=>Sp vs (if AV.key 4 (.tup kk) then KX ((bX kk mm).getD d,H2) else Sd) λu0 u1=>Sd:Sh (AV×Hp))=KX (v,H')->G (.Call (.Attribute w ("get") ap) es [] pos)) vs (λh2=>aR λkey h=>DC he hl rm hs sx c1 c3 c4 c5 h1 h2 key (.inl ⟨rfl,rfl⟩)<|cv<|R9 h) (λd vs h2 h=>Hw (λh h2=>aR (λkey h=>DC he hl rm hs sx c1 c3 c4 c5 h1 h2 key (.inr ⟨d,rfl,rfl⟩)<|cv<|R9 h) h) h h2) h2 h) h (λh O=>au h) h2) h h2) h) h (λh O=>au h) h1) h) c2) c) c) c
 case dz a b=>exact λh=>cF (P:=G) λf es kw pos=>aZ (P:=λf=>G<|.Call f es kw pos) λx p=>az (P:=λes=>G<|.Call (.Name x p) es kw pos) λy es=>cF (P:=λy=>G<|.Call (.Name x p) (y::es) kw pos) λf fs kv q=>aZ (P:=λf=>G<|.Call (.Name x p) ((.Call f fs kv q)::es) kw pos) λx1 p1=>az (P:=λfs=>G<|.Call (.Name x p) ((.Call (.Name x1 p1) fs kv q)::es) kw pos) λz fs=>az (P:=λfs=>G<|.Call (.Name x p) ((.Call (.Name x1 p1) (z::fs) kv q)::es) kw pos) λz1 fs=>ao (P:=λfs=>G<|.Call (.Name x p) ((.Call (.Name x1 p1) (z::(z1::fs)) kv q)::es) kw pos)<|ao (P:=λkv=>G<|.Call (.Name x p) ((.Call (.Name x1 p1) (z::(z1::[])) kv q)::es) kw pos)<|ao (P:=λes=>G<|.Call (.Name x p) ((.Call (.Name x1 p1) (z::(z1::[])) [] q)::es) kw pos)<|ao (P:=λkw=>G<|.Call (.Name x p) ((.Call (.Name x1 p1) (z::(z1::[])) [] q)::[]) kw pos)<|ae λc c5=>ae (λc c4=>ae (λc c3=>ae (λc1 c2=>aC (λu H1 h1 h=>rG (P:=λu=>r.e a loc H=KX (u,H1)->G (.Call (.Name x p) ((.Call (.Name x1 p1) (z::(z1::[])) [] q)::[]) [] pos)) (λh h1=>aC (λw H2 h2 h=>rG (P:=λw=>r.e b loc H1=KX (w,H2)->G (.Call (.Name x p) ((.Call (.Name x1 p1) (z::(z1::[])) [] q)::[]) [] pos)) (λh h2=>Qk st he rm hs sx (Sa c1) (Sa c2) c3 c4 c5 h1 h2<|cv<|R9 h) h h2) h) h h1) h) c) c) c
 case comp cap t src ifs elt=>exact λh=>iT (P:=G) λel gs sc pos=>az (P:=λgs=>G<|.ListComp el gs sc pos) λg1 gs=>rj (P:=λg1=>G<|.ListComp el (g1::gs) sc pos) λtg it cs as=>sY (P:=λas=>G<|.ListComp el ((⟨tg,it,cs,as⟩)::gs) sc pos)<|ao (P:=λgs=>G<|.ListComp el ((⟨tg,it,cs,0⟩)::gs) sc pos)<|ae λc c7=>ae (λc c6=>ae (λc c5=>ae (λc c4=>ae (λc c3=>ae (λc1 c2=>aC (λxs H1 h1 h=>bG (λloc1 hc h=>bI (λq h2 e=>Mc he ht hr rm hs sx c1 c2 c3 c4 c5 c6 c7 h1 hc h2<|cv e) h) h) h) c) c) c) c) c
 case AX cap t src t2 s2 elt=>exact λh=>iT (P:=G) λel gs sc pos=>az (P:=λgs=>G<|.ListComp el gs sc pos) λg1 gs=>rj (P:=λg1=>G<|.ListComp el (g1::gs) sc pos) λtg it cs as=>ao (P:=λcs=>G<|.ListComp el ((⟨tg,it,cs,as⟩)::gs) sc pos)<|sY (P:=λas=>G<|.ListComp el ((⟨tg,it,[],as⟩)::gs) sc pos)<|az (P:=λgs=>G<|.ListComp el ((⟨tg,it,[],0⟩)::gs) sc pos) λg1 gs=>rj (P:=λg1=>G<|.ListComp el ((⟨tg,it,[],0⟩)::(g1::gs)) sc pos) λfE it2 cs as=>ao (P:=λcs=>G<|.ListComp el ((⟨tg,it,[],0⟩)::((⟨fE,it2,cs,as⟩)::gs)) sc pos)<|sY (P:=λas=>G<|.ListComp el ((⟨tg,it,[],0⟩)::((⟨fE,it2,[],as⟩)::gs)) sc pos)<|ao (P:=λgs=>G<|.ListComp el ((⟨tg,it,[],0⟩)::((⟨fE,it2,[],0⟩)::gs)) sc pos)<|ae λc c11=>ae (λc c10=>ae (λc c9=>ae (λc c8=>ae (λc c7=>ae (λc c6=>ae (λc c5=>ae (λc c4=>ae (λc c3=>ae (λc1 c2=>aC (λxs H1 h1 h=>bG (λloc1 hc h=>bI (λq h2 e=>J6 st (wA S T) he rm hs sx c1 c2 c3 c4 c5 c6 c7 c8 c9 c10 c11 h1 hc h2<|cv e) h) h) h) c) c) c) c) c) c) c) c) c
 case Ao neg kk o x=>exact λh=>gB (P:=G) λl os rs p=>az (P:=λos=>G<|.Compare l os rs p) λop os=>ao (P:=λos=>G<|.Compare l (op::os) rs p)<|az (P:=λrs=>G<|.Compare l (op::[]) rs p) λr0 rs=>bu (P:=λr0=>G<|.Compare l (op::[]) (r0::rs) p) λw a p2=>aZ (P:=λw=>G<|.Compare l (op::[]) ((.Attribute w a p2)::rs) p) λy p1=>ao (P:=λrs=>G<|.Compare l (op::[]) ((.Attribute (.Name y p1) a p2)::rs) p)<|ae λc c3=>ae (λc c2=>ae (λc0 c1=>gZ (P:=λop=>G<|.Compare l [op] [.Attribute (.Name y p1) a p2] p) (bI (λq h e=>aC (λkv H1 h1 h=>jJ (λw hl h=>AV.gS (P:=λw=>loc[o]? =KX (.fr w)->G (.Compare l [if neg then .NotIn else .In] [.Attribute (.Name y p1) a p2] p)) (λm h hl=>uN (λl1 key hm ek hk h=>Hj st he rm hs sx c1 (Sa c2) c3 h1 hl hm (.T l1 key rfl ek hk rfl)<|cv<|(R6 (λq:Sq×Hp=>(AV.bool q.1,q.2))<|R9 h).trans e) (λl1 key hm ek h=>Hj st he rm hs sx c1 (Sa c2) c3 h1 hl hm (.I l1 key rfl ek rfl)<|cv<|(R6 (λq:Sq×Hp=>(AV.bool q.1,q.2))<|R9 h).trans e) h) h (λh O=>au h) hl) h) h) h) c0) c) c
 case xb o x kk=>exact λh=>dn (P:=G) λw sl p=>bu (P:=λw=>G<|.Subscript w sl p) λu a p2=>aZ (P:=λu=>G<|.Subscript (.Attribute u a p2) sl p) λy p1=>ae λc c4=>ae (λc c3=>ae (λc1 c2=>jJ (λw hl h=>AV.gS (P:=λu=>loc[o]? =KX (.fr u)->G (.Subscript (.Attribute (.Name y p1) a p2) sl p)) (λm h hl=>J4 (λh0 h=>aC (λkv H1 h1 h=>uN (λl1 key hm ek hk h=>bI (λz h3 e=>D0 st he rm hs sx c1 (Sa c2) c3 c4 hl h0 h1 hm (.T l1 key rfl ek hk h3.symm)<|cv e) h) (λl1 key hm ek h=>bI (λz h3 e=>D0 st he rm hs sx c1 (Sa c2) c3 c4 hl h0 h1 hm (.I l1 key rfl ek h3.symm)<|cv e) h) h) h) h) h (λh O=>au h) hl) h) c) c
 case Ml o x=>exact λh=>cF (P:=G) λf es kw pos=>aZ (P:=λf=>G<|.Call f es kw pos) λx1 p=>az (P:=λes=>G<|.Call (.Name x1 p) es kw pos) λz es=>bu (P:=λz=>G<|.Call (.Name x1 p) (z::es) kw pos) λu a p2=>aZ (P:=λu=>G<|.Call (.Name x1 p) ((.Attribute u a p2)::es) kw pos) λy p1=>ao (P:=λes=>G<|.Call (.Name x1 p) ((.Attribute (.Name y p1) a p2)::es) kw pos)<|ao (P:=λkw=>G<|.Call (.Name x1 p) ((.Attribute (.Name y p1) a p2)::[]) kw pos)<|ae λc c3=>ae (λc c2=>ae (λc0 c1=>have e0:x1=vE .len:=Sa c0;jJ (λw hl h=>AV.gS (P:=λu=>loc[o]? =KX (.fr u)->G (.Call (.Name x1 p) ((.Attribute (.Name y p1) a p2)::[]) [] pos)) (λm h hl=>bG (λs hm h=>SV.uj (P:=λs=>cK P H m x=KX s->G (.Call (.Name x1 p) ((.Attribute (.Name y p1) a p2)::[]) [] pos)) (λl h hm=>aR (λz h=>Ms st hs sx c1 (e0▸(st.bi .len).1) (e0▸(st.bi .len).2) c2 (Sa c3) hl hm z<|cv<|R9 h) h) h (λh O=>au h) hm) h) h (λh O=>au h) hl) h) c) c
end
section
theorem uw{c:Prop}[X7 c]{x:Sh β}{y:β}{P:Prop}(k:¬c->x=KX y->P)(h:(if c then Sd else x)=KX y):P:=
 if hc:c then au (by rwa [Sv hc] at h) else k hc (by rwa [SI hc] at h)
theorem CV{o:Sh α}{f:α->Sh β}{x:α}{y:Sh β}(h:o=KX x)(k:f x=y):mP o f=y:=h▸k
theorem vz{i:Sf}{x:SS}(c:cG ks i x=R8):kG ks i x=true:=
 (R6 (λo=>eD (λp:SS×VK=>decide (p.1=x)&&(decide (p.2=.l)||decide (p.2=.c))) o=R8)<|dm c).mpr (Bool.and_eq_true_iff.mpr ⟨Sz rfl,rfl⟩)
theorem rF{i:Sf}{x:SS}(c:cA ks i x=R8):(x==("__debug__":SS))=false:=jr (λu0 u1 u2 hd u3=>hd) c
theorem vy{loc1:Loc}{i:Sf}{P:Loc->Prop}(k:P (loc.set i sv)):fM loc i sv=KX loc1->P loc1:=aR λu0 h=>R9 h▸k
theorem ju{i:Sf}{y:Fl×Loc×Hp}{P:Prop}(k:KX (Fl.nx,loc.set i sv,H)=KX y->P):qG loc i sv H=KX y->P:=bI λl1 h e=>vy (P:=λl1=>(Fl.nx,l1,H)=y->P) (λe=>k<|R6 KX e) h e
theorem jL{o:Sh Hp}{y:Fl×Loc×Hp}{P:Prop}(k:∀H,o=KX H->KX (Fl.nx,loc,H)=KX y->P):qD loc o=KX y->P:=bI λH h e=>k H h<|R6 KX e
theorem iY{o:ME}{f:Sf->Hp->Sh (Fl×Loc×Hp)}{y:Fl×Loc×Hp}(k:∀m H1,r.e o loc H=KX (.ref m,H1)->f m H1=KX y->Z):lM r o loc H f=KX y->Z:=
 aC λu H1 h1 h=>AV.gS (P:=λu=>r.e o loc H=KX (u,H1)->Z) (λm h h1=>k m H1 h1 h) h (λh O=>au h) h1
theorem l9{o:ME}{f:SK->Hp->Sh (Fl×Loc×Hp)}{y:Fl×Loc×Hp}(k:∀m H1,r.e o loc H=KX (.int m,H1)->f m H1=KX y->Z):rA r o loc H f=KX y->Z:=
 aC λu H1 h1 h=>AV.dw (P:=λu=>r.e o loc H=KX (u,H1)->Z) (λm h h1=>k m H1 h1 h) h (λh O=>au h) h1
theorem oq{o:Sh SV}{f:R5 AV->Sh (Fl×Loc×Hp)}{y:Fl×Loc×Hp}(k:∀l,o=KX (.ml l)->f l=KX y->Z):(cz o λs=>s.j6 Sd f)=KX y->Z:=
 bG λs e h=>SV.uj (P:=λs=>o=KX s->Z) (λl h e=>k l e h) h (λh O=>au h) e
theorem z7{o:Sh SV}{f:R5 (R5 AV)->Sh (Fl×Loc×Hp)}{y:Fl×Loc×Hp}(k:∀l,o=KX (.hY l)->f l=KX y->Z):(cz o λs=>s.wt Sd f)=KX y->Z:=
 bG λs e h=>SV.F7 (P:=λs=>o=KX s->Z) (λl h e=>k l e h) h (λh O=>au h) e
set_option tactic.hygienic true in
theorem ND(st:bU S T P tb)(fns:∀f d,P.fns[f]? =KX d->sk S T tb f d)(pr:lJ r)(he:bH S T tb r n)(ht:iG S T tb r n)(hss:jv S T tb r n)(hX:BE S T P tb r n):KY S T tb (step P r) (n+1):=by
 intro k ks m stm A s W env loc loc' H H' fl Q E c rm1 hs sx h0 g0;have rm:=rm1.less<|Tn n;have hl:iv S T tb r n:=nQ he;have h:O8 P r m loc H=KX (fl,loc',H'):=h0;have g:SG S T env ks loc' H' fl s W Q:=g0;clear h0 g0
 let G:T1->Prop:=λe=>Sm (md S) A (Ve e env) Q E s
 show G stm
 revert c
 induction k using SW with
 |zero=>exact bc
 |succ k=>
 revert h
 induction m using MS.casesOn
 case ret a=>exact λh=>nP (P:=G) λy p=>da (P:=λy=>G<|.Return y p) λx=>λc1=>bI (λq h1 e=>Oe he rm hs sx c1 h1<|g.of<|R6 KX e) h
 case ret0=>exact λh=>nP (P:=G) λy p=>fF (P:=λy=>G<|.Return y p)<|λc=>Mk hs sx<|g.of h
 case ex a=>exact λh=>jd (P:=G) λx p=>ae λc1 c2=>bI (λq h1 e=>Qp he rm hs sx (eO c1) c2 h1<|g.of<|R6 KX e) h
 case as i a=>exact λh=>cC (P:=G) λus y p=>az (P:=λus=>G<|.Assign us y p) λu us=>aZ (P:=λu=>G<|.Assign (u::us) y p) λx q=>ao (P:=λus=>G<|.Assign ((.Name x q)::us) y p)<|ae λc c3=>ae (λc1 c2=>aC (λv H1 h1 h=>ju (λe=>(Bool.or_eq_true_iff.mp c2).elim (λc2=>Qs he rm hs sx (eO c2) c1 c3 h1<|g.of e) λc2=>(kT c1).elim λvk hk=>GB (P:=P) hX rm hs sx c2 c3 h1 Sd hk.1 (hk.2.imp id λe=>⟨e,_,rfl⟩) (λX D us j vs ev l1 l2 l3=>bV.fr<|ev▸RV.lst l2 l1 l3)<|g.of e) h) h) c
 case asT t a=>exact λh=>cC (P:=G) λus y p=>az (P:=λus=>G<|.Assign us y p) λu us=>gk (P:=λu=>G<|.Assign (u::us) y p) λts d q=>ao (P:=λus=>G<|.Assign ((.Tuple ts d q)::us) y p)<|ae λc c4=>ae (λc c3=>ae (λc1 c2=>aC (λv H1 h1 h=>bI (λl1 h2 e=>ML he rm hs sx (eO c1) c2 c3 c4 h1 h2<|g.of<|R6 KX e) h) h) c) c
 case asL i l=>exact λh=>cC (P:=G) λus y p=>az (P:=λus=>G<|.Assign us y p) λu us=>aZ (P:=λu=>G<|.Assign (u::us) y p) λx q=>ao (P:=λus=>G<|.Assign ((.Name x q)::us) y p)<|fA (P:=λy=>G<|.Assign ((.Name x q)::[]) y p) λes p2=>ae λc c3=>ae (λc1 c2=>aC (λvs H1 h1 h=>ju (λe=>NA hl rm hs sx c1 c2 (Sa c3) h1<|g.of e) h) h) c
 case asC i a=>exact λh=>cC (P:=G) λus y p=>az (P:=λus=>G<|.Assign us y p) λu us=>aZ (P:=λu=>G<|.Assign (u::us) y p) λx q=>ao (P:=λus=>G<|.Assign ((.Name x q)::us) y p)<|ae λc c3=>ae (λc1 c2=>aC (λv H1 h1 h=>AV.dH (P:=λv=>r.e a loc H=KX (v,H1)->G (.Assign ((.Name x q)::[]) y p)) (λvs h h1=>ju (λe=>GB (P:=P) hX rm hs sx c2 c3 h1 (KX<|.fs i) (dm c1) (.inl rfl) (λX D us j ws ev l1 l2 l3=>AV.D6 ev▸bV.ml l1 l2 l3)<|g.of e) h) h (λh O=>au h) h1) h) c
 case asR i a nn=>exact λh=>cC (P:=G) λus y p=>az (P:=λus=>G<|.Assign us y p) λu us=>aZ (P:=λu=>G<|.Assign (u::us) y p) λx q=>ao (P:=λus=>G<|.Assign ((.Name x q)::us) y p)<|pH (P:=λy=>G<|.Assign ((.Name x q)::[]) y p) λy o z p3=>fA (P:=λy=>G<|.Assign ((.Name x q)::[]) (.BinOp y o z p3) p) λys p2=>az (P:=λys=>G<|.Assign ((.Name x q)::[]) (.BinOp (.List ys p2) o z p3) p) λy ys=>ao (P:=λys=>G<|.Assign ((.Name x q)::[]) (.BinOp (.List (y::ys) p2) o z p3) p)<|Cz (P:=λo=>G<|.Assign ((.Name x q)::[]) (.BinOp (.List (y::[]) p2) o z p3) p)<|ae λc c4=>ae (λc c3=>ae (λc1 c2=>aC (λv H1 h1 h=>l9 (λj H2 h2 h=>if e1:j=1 then ju (λe=>Hz he rm hs sx c1 c2 c3 c4 h1 h2 (.inr ⟨e1,rfl⟩)<|g.of e) ((Sv e1).symm.trans h) else aR (λe0 h=>ju (λe=>Hz he rm hs sx c1 c2 c3 c4 h1 h2 (.inl ⟨e0,rfl⟩)<|g.of e) h) ((SI e1).symm.trans h)) h) h) c) c
 case asD i=>exact λh=>cC (P:=G) λus y p=>az (P:=λus=>G<|.Assign us y p) λu us=>aZ (P:=λu=>G<|.Assign (u::us) y p) λx q=>ao (P:=λus=>G<|.Assign ((.Name x q)::us) y p)<|mX (P:=λy=>G<|.Assign ((.Name x q)::[]) y p) λa b p2=>ao (P:=λa=>G<|.Assign ((.Name x q)::[]) (.Dict a b p2) p)<|ao (P:=λb=>G<|.Assign ((.Name x q)::[]) (.Dict [] b p2) p)<|λc=>ju (λe=>Oi st hs sx c<|g.of e) h
 case as2 i j a b=>exact λh=>cC (P:=G) λus y p=>az (P:=λus=>G<|.Assign us y p) λu us=>gk (P:=λu=>G<|.Assign (u::us) y p) λts d p3=>az (P:=λts=>G<|.Assign ((.Tuple ts d p3)::us) y p) λt1 ts=>aZ (P:=λt1=>G<|.Assign ((.Tuple (t1::ts) d p3)::us) y p) λx p1=>az (P:=λts=>G<|.Assign ((.Tuple ((.Name x p1)::ts) d p3)::us) y p) λt2 ts=>aZ (P:=λt2=>G<|.Assign ((.Tuple ((.Name x p1)::(t2::ts)) d p3)::us) y p) λy1 p2=>ao (P:=λts=>G<|.Assign ((.Tuple ((.Name x p1)::((.Name y1 p2)::ts)) d p3)::us) y p)<|ao (P:=λus=>G<|.Assign ((.Tuple ((.Name x p1)::((.Name y1 p2)::[])) d p3)::us) y p)<|gk (P:=λy=>G<|.Assign ((.Tuple ((.Name x p1)::((.Name y1 p2)::[])) d p3)::[]) y p) λys d1 p6=>az (P:=λys=>G<|.Assign ((.Tuple ((.Name x p1)::((.Name y1 p2)::[])) d p3)::[]) (.Tuple ys d1 p6) p) λz1 ys=>fA (P:=λz1=>G<|.Assign ((.Tuple ((.Name x p1)::((.Name y1 p2)::[])) d p3)::[]) (.Tuple (z1::ys) d1 p6) p) λes p4=>az (P:=λys=>G<|.Assign ((.Tuple ((.Name x p1)::((.Name y1 p2)::[])) d p3)::[]) (.Tuple ((.List es p4)::ys) d1 p6) p) λz2 ys=>fA (P:=λz2=>G<|.Assign ((.Tuple ((.Name x p1)::((.Name y1 p2)::[])) d p3)::[]) (.Tuple ((.List es p4)::(z2::ys)) d1 p6) p) λfs p5=>ao (P:=λys=>G<|.Assign ((.Tuple ((.Name x p1)::((.Name y1 p2)::[])) d p3)::[]) (.Tuple ((.List es p4)::((.List fs p5)::ys)) d1 p6) p)<|ae λc c7=>ae (λc c6=>ae (λc c5=>ae (λc c4=>ae (λc c3=>ae (λc1 c2=>aC (λvs H1 h1 h=>aC (λws H2 h2 h=>bG (λl1 hl1 h=>uw (λij h=>ju (λe=>M3 hl rm hs sx c1 c2 c4 c5 (Sa c6) (Sa c7) h1 h2 ij<|g.of<|(R6 (λl=>KX (Fl.nx,l,H2))<|vy (P:=λl1=>(loc.set i<|.ml vs).set j (.ml ws)=l1.set j (.ml ws)) rfl hl1).trans e) h) h) h) h) h) c) c) c) c) c
 case asB i j gi l a=>exact λh=>cC (P:=G) λus y p=>az (P:=λus=>G<|.Assign us y p) λu us=>gk (P:=λu=>G<|.Assign (u::us) y p) λts d p3=>az (P:=λts=>G<|.Assign ((.Tuple ts d p3)::us) y p) λt1 ts=>aZ (P:=λt1=>G<|.Assign ((.Tuple (t1::ts) d p3)::us) y p) λx p1=>az (P:=λts=>G<|.Assign ((.Tuple ((.Name x p1)::ts) d p3)::us) y p) λt2 ts=>aZ (P:=λt2=>G<|.Assign ((.Tuple ((.Name x p1)::(t2::ts)) d p3)::us) y p) λy1 p2=>ao (P:=λts=>G<|.Assign ((.Tuple ((.Name x p1)::((.Name y1 p2)::ts)) d p3)::us) y p)<|ao (P:=λus=>G<|.Assign ((.Tuple ((.Name x p1)::((.Name y1 p2)::[])) d p3)::us) y p)<|gk (P:=λy=>G<|.Assign ((.Tuple ((.Name x p1)::((.Name y1 p2)::[])) d p3)::[]) y p) λys d1 p6=>az (P:=λys=>G<|.Assign ((.Tuple ((.Name x p1)::((.Name y1 p2)::[])) d p3)::[]) (.Tuple ys d1 p6) p) λz1 ys=>cF (P:=λz1=>G<|.Assign ((.Tuple ((.Name x p1)::((.Name y1 p2)::[])) d p3)::[]) (.Tuple (z1::ys) d1 p6) p) λf es kw pos=>aZ (P:=λf=>G<|.Assign ((.Tuple ((.Name x p1)::((.Name y1 p2)::[])) d p3)::[]) (.Tuple ((.Call f es kw pos)::ys) d1 p6) p) λfx p0=>ao (P:=λkw=>G<|.Assign ((.Tuple ((.Name x p1)::((.Name y1 p2)::[])) d p3)::[]) (.Tuple ((.Call (.Name fx p0) es kw pos)::ys) d1 p6) p)<|az (P:=λys=>G<|.Assign ((.Tuple ((.Name x p1)::((.Name y1 p2)::[])) d p3)::[]) (.Tuple ((.Call (.Name fx p0) es [] pos)::ys) d1 p6) p) λz ys=>ao (P:=λys=>G<|.Assign ((.Tuple ((.Name x p1)::((.Name y1 p2)::[])) d p3)::[]) (.Tuple ((.Call (.Name fx p0) es [] pos)::(z::ys)) d1 p6) p)<|ae λc c7=>ae (λc c6=>ae (λc c5=>ae (λc c4=>ae (λc c3=>ae (λc1 c2=>bG (λw hg h=>AV.qZ (P:=λw=>P.bW[gi]? =KX w->G (.Assign ((.Tuple ((.Name x p1)::((.Name y1 p2)::[])) d p3)::[]) (.Tuple ((.Call (.Name fx p0) es [] pos)::(z::[])) d1 p6) p)) (λf h hg=>aC (λvs H1 h1 h=>aC (λxs H2 h2 h=>aC (λv H3 h3 h=>bG (λl1 hl1 h=>uw (λij h=>bI (λl2 hl2 e=>MR st fns he hss rm1 hs sx c1 c2 (Bool.and_eq_true_iff.mpr ⟨Bool.and_eq_true_iff.mpr ⟨rfl,vz c1⟩,Bool.and_eq_true_iff.mpr ⟨Bool.and_eq_true_iff.mpr ⟨rfl,vz c2⟩,rfl⟩⟩) rfl c4 c5 c6 c7 hg h1 h2 h3 (CV hl1<|CV hl2 rfl) (g.of<|R6 KX e)) h) h) h) h) h) h) h (λh O=>au h) hg) h) c) c) c) c) c
 case «at» o x a=>exact λh=>cC (P:=G) λus y p=>az (P:=λus=>G<|.Assign us y p) λu us=>bu (P:=λu=>G<|.Assign (u::us) y p) λox a1 p1=>ao (P:=λus=>G<|.Assign ((.Attribute ox a1 p1)::us) y p)<|ae λc c4=>ae (λc c3=>ae (λc1 c2=>aC (λv H1 h1 h=>iY (λm H2 h2 h=>jL (λH3 h3 e=>Qr st he rm hs sx (eO c1) (Sa c2) c3 c4 h1 h2 h3<|g.of e) h) h) h) c) c
 case atL o x nest=>exact λh=>cC (P:=G) λus y p=>az (P:=λus=>G<|.Assign us y p) λu us=>bu (P:=λu=>G<|.Assign (u::us) y p) λox a1 p1=>ao (P:=λus=>G<|.Assign ((.Attribute ox a1 p1)::us) y p)<|fA (P:=λy=>G<|.Assign ((.Attribute ox a1 p1)::[]) y p) λys p2=>ao (P:=λys=>G<|.Assign ((.Attribute ox a1 p1)::[]) (.List ys p2) p)<|ae λc1 c2=>iY (λm H2 h2 h=>jL (λH3 h3 e=>Nn st he rm hs sx (Sa c1) c2 h2 h3<|g.of e) h) h
 case atD o x dk=>exact λh=>cC (P:=G) λus y p=>az (P:=λus=>G<|.Assign us y p) λu us=>bu (P:=λu=>G<|.Assign (u::us) y p) λox a1 p1=>ao (P:=λus=>G<|.Assign ((.Attribute ox a1 p1)::us) y p)<|mX (P:=λy=>G<|.Assign ((.Attribute ox a1 p1)::[]) y p) λys zs p2=>ao (P:=λys=>G<|.Assign ((.Attribute ox a1 p1)::[]) (.Dict ys zs p2) p)<|ao (P:=λzs=>G<|.Assign ((.Attribute ox a1 p1)::[]) (.Dict [] zs p2) p)<|ae λc1 c2=>iY (λm H2 h2 h=>jL (λH3 h3 e=>M4 st he rm hs sx (Sa c1) c2 h2 h3<|g.of e) h) h
 case app i a=>exact λh=>jd (P:=G) λu p1=>cF (P:=λu=>G<|.Expr u p1) λw es kw pos=>bu (P:=λw=>G<|.Expr (.Call w es kw pos) p1) λw f ap=>aZ (P:=λw=>G<|.Expr (.Call (.Attribute w f ap) es kw pos) p1) λx p=>az (P:=λes=>G<|.Expr (.Call (.Attribute (.Name x p) f ap) es kw pos) p1) λy es=>ao (P:=λes=>G<|.Expr (.Call (.Attribute (.Name x p) f ap) (y::es) kw pos) p1)<|ao (P:=λkw=>G<|.Expr (.Call (.Attribute (.Name x p) f ap) (y::[]) kw pos) p1)<|ae λc c6=>ae (λc c5=>ae (λc c4=>ae (λc c3=>ae (λc1 c2=>gZ (P:=λf=>G<|.Expr (.Call (.Attribute (.Name x p) f ap) [y] [] pos) p1) (aC (λv H1 h1 h=>oq (λl hl1 h=>aR (λz h=>MM he rm hs sx c1 (rF c2) c4 c5 c6 h1 hl1 z<|g.of h) h) h) h) c3) c) c) c) c
 case ext i a=>exact λh=>jd (P:=G) λu p1=>cF (P:=λu=>G<|.Expr u p1) λw es kw pos=>bu (P:=λw=>G<|.Expr (.Call w es kw pos) p1) λw f ap=>aZ (P:=λw=>G<|.Expr (.Call (.Attribute w f ap) es kw pos) p1) λx p=>az (P:=λes=>G<|.Expr (.Call (.Attribute (.Name x p) f ap) es kw pos) p1) λy es=>ao (P:=λes=>G<|.Expr (.Call (.Attribute (.Name x p) f ap) (y::es) kw pos) p1)<|ao (P:=λkw=>G<|.Expr (.Call (.Attribute (.Name x p) f ap) (y::[]) kw pos) p1)<|ae λc c6=>ae (λc c5=>ae (λc c4=>ae (λc c3=>ae (λc1 c2=>gZ (P:=λf=>G<|.Expr (.Call (.Attribute (.Name x p) f ap) [y] [] pos) p1) (aC (λv H1 h1 h=>AV.dH (P:=λv=>r.e a loc H=KX (v,H1)->G (.Expr (.Call (.Attribute (.Name x p) ("extend":SS) ap) [y] [] pos) p1)) (λvs h h1=>oq (λl hl1 h=>aR (λz h=>ae (λz1 z2=>Oc he rm hs sx c1 (rF c2) c4 c5 c6 h1 hl1 z1 z2<|g.of h) z) h) h) h (λh O=>au h) h1) h) c3) c) c) c) c
 case pop j i=>exact λh=>cC (P:=G) λus y p=>az (P:=λus=>G<|.Assign us y p) λu us=>aZ (P:=λu=>G<|.Assign (u::us) y p) λx p1=>ao (P:=λus=>G<|.Assign ((.Name x p1)::us) y p)<|cF (P:=λy=>G<|.Assign ((.Name x p1)::[]) y p) λw es kw pos=>bu (P:=λw=>G<|.Assign ((.Name x p1)::[]) (.Call w es kw pos) p) λw f ap=>aZ (P:=λw=>G<|.Assign ((.Name x p1)::[]) (.Call (.Attribute w f ap) es kw pos) p) λy p2=>ao (P:=λes=>G<|.Assign ((.Name x p1)::[]) (.Call (.Attribute (.Name y p2) f ap) es kw pos) p)<|ao (P:=λkw=>G<|.Assign ((.Name x p1)::[]) (.Call (.Attribute (.Name y p2) f ap) [] kw pos) p)<|ae λc c5=>ae (λc c4=>ae (λc c3=>ae (λc1 c2=>gZ (P:=λf=>G<|.Assign [.Name x p1] (.Call (.Attribute (.Name y p2) f ap) [] [] pos) p) (oq (λl hl1 h=>bG (λv hv h=>uw (λij h=>ju (λe=>s_pop rm hs sx c1 (rF c2) c3 c5 hl1 hv ((Bool.eq_false_or_eq_true _).resolve_right λe=>ij<|.inr e)<|g.of e) h) h) h) h) c4) c) c) c
 case stL i kk a=>exact λh=>cC (P:=G) λus y p=>az (P:=λus=>G<|.Assign us y p) λu us=>dn (P:=λu=>G<|.Assign (u::us) y p) λu z p1=>aZ (P:=λu=>G<|.Assign ((.Subscript u z p1)::us) y p) λx p2=>ao (P:=λus=>G<|.Assign ((.Subscript (.Name x p2) z p1)::us) y p)<|ae λc c7=>ae (λc c6=>ae (λc c5=>ae (λc c4=>ae (λc c3=>ae (λc1 c2=>aC (λv H1 h1 h=>l9 (λj H2 h2 h=>oq (λl hl1 h=>aR (λz h=>M0 he rm hs sx c1 (rF c2) (eO c3) c7 c6 h1 h2 hl1 z.1 z.2.1 z.2.2<|g.of h) h) h) h) h) c) c) c) c) c
 case stD i kk a=>exact λh=>cC (P:=G) λus y p=>az (P:=λus=>G<|.Assign us y p) λu us=>dn (P:=λu=>G<|.Assign (u::us) y p) λu z p1=>aZ (P:=λu=>G<|.Assign ((.Subscript u z p1)::us) y p) λx p2=>ao (P:=λus=>G<|.Assign ((.Subscript (.Name x p2) z p1)::us) y p)<|ae λc c7=>ae (λc c6=>ae (λc c4=>ae (λc c3=>ae (λc1 c2=>aC (λv H1 h1 h=>aC (λw H2 h2 h=>AV.dG (P:=λw=>r.e kk loc H1=KX (w,H2)->G (.Assign ((.Subscript (.Name x p2) z p1)::[]) y p)) (λkey h h2=>bG (λsv hl1 h=>SV.uL (P:=λs=>loc[i]? =KX s->G (.Assign ((.Subscript (.Name x p2) z p1)::[]) y p)) (λl h hl1=>aR (λz h=>ae (λz1 z2=>Nf he rm hs sx c1 (rF c2) (eO c3) c7 c6 h1 h2 hl1 z1 z2<|g.of h) z) h) h (λh O=>au h) hl1) h) h (λh O=>au h) h2) h) h) c) c) c) c
 case apA o x a=>exact λh=>jd (P:=G) λu p1=>cF (P:=λu=>G<|.Expr u p1) λw es kw pos=>bu (P:=λw=>G<|.Expr (.Call w es kw pos) p1) λw f ap=>bu (P:=λw=>G<|.Expr (.Call (.Attribute w f ap) es kw pos) p1) λox a1 p=>az (P:=λes=>G<|.Expr (.Call (.Attribute (.Attribute ox a1 p) f ap) es kw pos) p1) λy es=>ao (P:=λes=>G<|.Expr (.Call (.Attribute (.Attribute ox a1 p) f ap) (y::es) kw pos) p1)<|ao (P:=λkw=>G<|.Expr (.Call (.Attribute (.Attribute ox a1 p) f ap) (y::[]) kw pos) p1)<|ae λc c7=>ae (λc c6=>ae (λc c5=>ae (λc c4=>ae (λc c3=>ae (λc1 c2=>gZ (P:=λf=>G<|.Expr (.Call (.Attribute (.Attribute ox a1 p) f ap) [y] [] pos) p1) (iY (λm H1 h1 h=>oq (λl0 q h=>aC (λv H2 h2 h=>oq (λl hm h=>aR (λz h=>jL (λH3 h3 e=>MN st he rm hs sx (Sa c1) c2 c4 c5 c6 c7 h1 q h2 hm z h3<|g.of e) h) h) h) h) h) h) c3) c) c) c) c) c
 case apA0 o x=>exact λh=>jd (P:=G) λu p1=>cF (P:=λu=>G<|.Expr u p1) λw es kw pos=>bu (P:=λw=>G<|.Expr (.Call w es kw pos) p1) λw f ap=>bu (P:=λw=>G<|.Expr (.Call (.Attribute w f ap) es kw pos) p1) λox a1 p=>az (P:=λes=>G<|.Expr (.Call (.Attribute (.Attribute ox a1 p) f ap) es kw pos) p1) λy es=>fA (P:=λy=>G<|.Expr (.Call (.Attribute (.Attribute ox a1 p) f ap) (y::es) kw pos) p1) λys p2=>ao (P:=λys=>G<|.Expr (.Call (.Attribute (.Attribute ox a1 p) f ap) ((.List ys p2)::es) kw pos) p1)<|ao (P:=λes=>G<|.Expr (.Call (.Attribute (.Attribute ox a1 p) f ap) ((.List [] p2)::es) kw pos) p1)<|ao (P:=λkw=>G<|.Expr (.Call (.Attribute (.Attribute ox a1 p) f ap) ((.List [] p2)::[]) kw pos) p1)<|ae λc c5=>ae (λc c4=>ae (λc c3=>ae (λc1 c2=>gZ (P:=λf=>G<|.Expr (.Call (.Attribute (.Attribute ox a1 p) f ap) [.List [] p2] [] pos) p1) (iY (λm H1 h1 h=>z7 (λl hm h=>aR (λz h=>jL (λH3 h3 e=>Kt st he rm hs sx (Sa c1) c2 c4 c5 h1 hm z h3<|g.of e) h) h) h) h) c3) c) c) c
 case apAK o x kk a=>exact λh=>jd (P:=G) λu p1=>cF (P:=λu=>G<|.Expr u p1) λw es kw pos=>bu (P:=λw=>G<|.Expr (.Call w es kw pos) p1) λw f ap=>dn (P:=λw=>G<|.Expr (.Call (.Attribute w f ap) es kw pos) p1) λw z p2=>bu (P:=λw=>G<|.Expr (.Call (.Attribute (.Subscript w z p2) f ap) es kw pos) p1) λox a1 p=>az (P:=λes=>G<|.Expr (.Call (.Attribute (.Subscript (.Attribute ox a1 p) z p2) f ap) es kw pos) p1) λy es=>ao (P:=λes=>G<|.Expr (.Call (.Attribute (.Subscript (.Attribute ox a1 p) z p2) f ap) (y::es) kw pos) p1)<|ao (P:=λkw=>G<|.Expr (.Call (.Attribute (.Subscript (.Attribute ox a1 p) z p2) f ap) (y::[]) kw pos) p1)<|ae λc c11=>ae (λc c10=>ae (λc c9=>ae (λc c8=>ae (λc c7=>ae (λc c6=>ae (λc c5=>ae (λc c4=>ae (λc c3=>ae (λc1 c2=>gZ (P:=λf=>G<|.Expr (.Call (.Attribute (.Subscript (.Attribute ox a1 p) z p2) f ap) [y] [] pos) p1) (iY (λm H1 h1 h=>l9 (λj H2 h2 h=>aC (λv H3 h3 h=>z7 (λl hm h=>bG (λm0 hq h=>aR (λzz h=>jL (λH4 h4 e=>aR (λhi hq=>have e2:H2=H1:=pr.same c7 h2;have e3:H3=H1:=(pr.same c8 h3).trans e2;Lx st pr he rm hs sx (Sa c1) c2 c4 c5 c6 c9 c10 c8 c11 h1 (h2.trans<|R6 (λh=>KX (AV.int j,h)) e2) ((R6 (λh=>r.e a loc h=KX (v,H1)) e2).mp<|h3.trans<|R6 (λh=>KX (v,h)) e3) (e3▸hm) hi hq zz ((R6 (λh=>dR h m x (.hY<|l.set j.toNat<|m0++[v])=KX H4) e3).mp h4) (g.of e)) hq) h) h) h) h) h) h) h) c3) c) c) c) c) c) c) c) c) c
 case stA o x kk a=>exact λh=>cC (P:=G) λus y p=>az (P:=λus=>G<|.Assign us y p) λu us=>dn (P:=λu=>G<|.Assign (u::us) y p) λu z p1=>bu (P:=λu=>G<|.Assign ((.Subscript u z p1)::us) y p) λox a1 p2=>ao (P:=λus=>G<|.Assign ((.Subscript (.Attribute ox a1 p2) z p1)::us) y p)<|ae λc c8=>ae (λc c7=>ae (λc c6=>ae (λc c5=>ae (λc c4=>ae (λc c3=>ae (λc1 c2=>aC (λv H1 h1 h=>iY (λm H2 h2 h=>aC (λkv H3 h3 h=>bG (λsv hm h=>have e3:H3=H2:=pr.same c5 h3;have hm2:=(R6 (λh=>cK P h m x=KX sv) e3).mp hm;have F:∀{sv1 H4},sf kv v sv sv1->dR H3 m x sv1=KX H4->KX (Fl.nx,loc,H4)=KX (fl,loc',H')->G (.Assign ((.Subscript (.Attribute ox a1 p2) z p1)::[]) y p):=λpk h4 e=>Np st he rm hs sx (Sa c1) c2 (eO c3) c6 c8 c7 h1 h2 hm2 h3 hm pk h4 (g.of e);SV.uL (P:=λs2=>sv=s2->G (.Assign ((.Subscript (.Attribute ox a1 p2) z p1)::[]) y p)) (λl h es=>AV.dG (P:=λw=>kv=w->G (.Assign ((.Subscript (.Attribute ox a1 p2) z p1)::[]) y p)) (λkey h ek=>aR (λz h=>ae (λz1 z2=>jL (λH4 h4 e=>F (.T l key es ek z1 z2 rfl) h4 e) h) z) h) h (λh O=>au h) rfl) h (λh=>SV.zG (P:=λs2=>sv=s2->G (.Assign ((.Subscript (.Attribute ox a1 p2) z p1)::[]) y p)) (λl h es=>AV.dw (P:=λw=>kv=w->G (.Assign ((.Subscript (.Attribute ox a1 p2) z p1)::[]) y p)) (λkey h ek=>aR (λz h=>ae (λz1 z2=>jL (λH4 h4 e=>F (.I l key es ek z2 rfl) h4 e) h) z) h) h (λh O=>au h) rfl) h λh=>SV.Jj (P:=λs2=>sv=s2->G (.Assign ((.Subscript (.Attribute ox a1 p2) z p1)::[]) y p)) (λl h es=>AV.i9 (P:=λw=>kv=w->G (.Assign ((.Subscript (.Attribute ox a1 p2) z p1)::[]) y p)) (λkey h ek=>aR (λz h=>jL (λH4 h4 e=>F (.S l key es ek z rfl) h4 e) h) h) h (λh O=>au h) rfl) h λh O=>au h) rfl) h) h) h) h) c) c) c) c) c) c
 case stB i kk a=>exact λh=>cC (P:=G) λus y p=>az (P:=λus=>G<|.Assign us y p) λu us=>dn (P:=λu=>G<|.Assign (u::us) y p) λu z p1=>aZ (P:=λu=>G<|.Assign ((.Subscript u z p1)::us) y p) λx p2=>ao (P:=λus=>G<|.Assign ((.Subscript (.Name x p2) z p1)::us) y p)<|ae λc c6=>ae (λc c5=>ae (λc c4=>ae (λc c3=>ae (λc1 c2=>aC (λv H1 h1 h=>jJ (λw hl1 h=>AV.gS (P:=λw=>loc[i]? =KX (.fr w)->G (.Assign ((.Subscript (.Name x p2) z p1)::[]) y p)) (λm h hl1=>l9 (λj H2 h2 h=>HE.xO (P:=λo=>H2[m]? =o->G (.Assign ((.Subscript (.Name x p2) z p1)::[]) y p)) (λl h hb=>aR (λz h=>Oo he rm hs sx c1 (eO c2) c6 c5 h1 hl1 h2 hb z.1 z.2.1 z.2.2<|g.of h) h) h (λh O=>au h) rfl) h) h (λh O=>au h) hl1) h) h) c) c) c) c
 case aug i a=>exact λh=>uM (P:=G) λu o y p=>aZ (P:=λu=>G<|.AugAssign u o y p) λx p1=>F6 (P:=λo=>G<|.AugAssign (.Name x p1) o y p)<|ae λc c3=>ae (λc1 c2=>jJ (λw hl1 h=>AV.dw (P:=λw=>loc[i]? =KX (.fr w)->G (.AugAssign (.Name x p1) .Sub y p)) (λu h hl1=>l9 (λw H1 h1 h=>Of he rm hs sx c1 c2 c3 hl1 h1<|g.of h) h) h (λh O=>au h) hl1) h) c
 case iff q t e=>exact λh=>H5 (P:=G) λx b o p=>ae λc c3=>ae (λc1 c2=>aC (λb H1 h1 h=>MU ht hss rm hs sx c1 c2 c3 h1 h g) h) c
 case wh q b=>exact λh=>s9 (P:=G) λx bb o p=>ao (P:=λo=>G<|.While x bb o p)<|ae λc1 c2=>Qe (m:=100) (b:=b) ht hss rm hs sx c1 c2 h g
 case whN i b=>exact λh=>s9 (P:=G) λw bb o p=>gB (P:=λw=>G<|.While w bb o p) λu os rs p3=>aZ (P:=λu=>G<|.While (.Compare u os rs p3) bb o p) λx p1=>az (P:=λos=>G<|.While (.Compare (.Name x p1) os rs p3) bb o p) λo1 os=>B2 (P:=λo1=>G<|.While (.Compare (.Name x p1) (o1::os) rs p3) bb o p)<|ao (P:=λos=>G<|.While (.Compare (.Name x p1) (.NotEq::os) rs p3) bb o p)<|az (P:=λrs=>G<|.While (.Compare (.Name x p1) (.NotEq::[]) rs p3) bb o p) λr0 rs=>fA (P:=λr0=>G<|.While (.Compare (.Name x p1) (.NotEq::[]) (r0::rs) p3) bb o p) λys p2=>ao (P:=λys=>G<|.While (.Compare (.Name x p1) (.NotEq::[]) ((.List ys p2)::rs) p3) bb o p)<|ao (P:=λrs=>G<|.While (.Compare (.Name x p1) (.NotEq::[]) ((.List [] p2)::rs) p3) bb o p)<|ao (P:=λo=>G<|.While (.Compare (.Name x p1) (.NotEq::[]) ((.List [] p2)::[]) p3) bb o p)<|ae λc c3=>ae (λc1 c2=>NY (m:=100) (b:=b) (i:=i) st hss rm hs sx c1 (rF c2) c3 h g) c
 case «for» t src b=>exact λh=>FZ (P:=G) λtg it bb o p=>ao (P:=λo=>G<|.For tg it bb o p)<|ae λc c5=>ae (λc c4=>ae (λc c3=>ae (λc1 c2=>aC (λxs H1 h1 h=>M7 st (wA S T) he hss rm hs sx c1 c2 c3 c4 c5 h1 h g) h) c) c) c
 case cont=>exact λh=>v7 (P:=G) λp=>λc=>Kb hs sx<|g.of h
 case dfn i=>exact λh c=>ju (λe=>NC st hs sx c<|g.of e) h
 case gH i=>exact λu0=>bc
 case frA o x=>exact λu0=>bc
 case any=>exact λu0=>bc
end
section
structure oF(S:bf)(T:cU)(P:PD)(tb:gh)(r:Rec)(n:Sf):Prop where
 e:bH S T tb r n
 t:iG S T tb r n
 f:pj S T r n
 ss:jv S T tb r n
 x:BE S T P tb r n
 p:lJ r
theorem oF.step(st:bU S T P tb)(X:vr S T tb)(hmg:T.mg "BorrowFault"=KX (.ref S.xc))(fns:∀f d,P.fns[f]? =KX d->sk S T tb f d)(hn:2<=n)(a:oF S T P tb r n):oF S T P tb (step P r) (n+1) where
 e:=Nk st X hmg hn a.e a.t a.f
 t:=stepT st a.e a.t
 f:=Qn st fns a.ss
 ss:=GX (ND st fns a.p a.e a.t a.ss a.x) (PZ a.p.v) λu0 u1=>rfl
 x:=N6 a.e a.t (Du st (wA S T) a.e a.f)
 p:=lJ.step r
theorem oF.bot:oF S T P tb bot 2 where
 e:=λu0 u1 u2 u3 h=>au h
 t:=λu0 u1 u2 u3 h=>au h
 f:=λu0 u1 u2 u3 u4 h=>au h
 ss:=by intro l k ks sts A s W env loc loc' H H' fl Q E c rm hs sx h g;refine GX (λu0 u1 u2 u3 h=>au h) (λu0 u1 h=>au h) (λu0 u1=>rfl) c rm hs sx h g
 x:=λu0 u1 u2 u3 h=>au h
 p:=⟨λu0 u1 u2 u3 u4 h=>(au h),λu0 u1 u2 u3 u4 h=>(au h)⟩
theorem Dm(st:bU S T P tb)(X:vr S T tb)(hmg:T.mg "BorrowFault"=KX (.ref S.xc))(fns:∀f d,P.fns[f]? =KX d->sk S T tb f d):∀k,oF S T P tb (ev P k) (k+2)
 |0=> .bot
 |k+1=> .step st X hmg fns (Ub 2 k)<|Dm st X hmg fns k
end
end
noncomputable section
noncomputable def Bo:R5 MS:=[
 .as 1 (.idx (.v 0)<|.c<|.int 0),
 .iff (.cmp .eq (.v 1)<|.c<|.str [114,101,102]) [.ret (.tup [(.idx (.v 0)<|.c<|.int 3)])] [],
 .iff (.or [(.cmp .eq (.v 1)<|.c<|.str [98,111,120]),(.cmp .eq (.v 1)<|.c<|.str [97,114,114,97,121])]) [.ret (.tup [(.idx (.v 0)<|.c<|.int 1)])] [],
 .iff (.cmp .eq (.v 1)<|.c<|.str [116,117,112,108,101]) [.ret (.idx (.v 0)<|.c<|.int 1)] [],
 .ret (.ite (.cmp .eq (.v 1)<|.c<|.str [97,100,116]) (.idx (.v 0)<|.c<|.int 3)<|.tup [])]
noncomputable def C4:R5 MS:=[
 .as 2 (.idx (.v 0)<|.c<|.int 0),
 .iff (.cmp .eq (.v 2)<|.c<|.str [114,101,102]) [.ret (.tup [(.c<|.str [114,101,102]),(.idx (.v 0)<|.c<|.int 1),(.idx (.v 0)<|.c<|.int 2),(.idx (.v 1)<|.c<|.int 0)])] [],
 .iff (.cmp .eq (.v 2)<|.c<|.str [98,111,120]) [.ret (.tup [(.c<|.str [98,111,120]),(.idx (.v 1)<|.c<|.int 0)])] [],
 .iff (.cmp .eq (.v 2)<|.c<|.str [97,114,114,97,121]) [.ret (.tup [(.c<|.str [97,114,114,97,121]),(.idx (.v 1)<|.c<|.int 0),(.idx (.v 0)<|.c<|.int 2)])] [],
 .iff (.cmp .eq (.v 2)<|.c<|.str [116,117,112,108,101]) [.ret (.tup [(.c<|.str [116,117,112,108,101]),(.aW .tup [(.v 1)])])] [],
 .ret (.ite (.cmp .eq (.v 2)<|.c<|.str [97,100,116]) (.tup [(.c<|.str [97,100,116]),(.idx (.v 0)<|.c<|.int 1),(.idx (.v 0)<|.c<|.int 2),(.aW .tup [(.v 1)])])<|.v 0)]
noncomputable def v8:R5 MS:=[
 .iff (.cmp .eq (.idx (.v 0)<|.c<|.int 0)<|.c<|.str [112,97,114,97,109]) [.ret (.get (.v 1) [(.idx (.v 0)<|.c<|.int 1),(.v 0)])] [],
 .ret (.aM 0 [(.v 0),(.comp [Sd,Sd,Sd,KX 1] (.n 1) (.e<|.aM 1 [(.v 0)]) [] (.aM 2 [(.v 1),(.v 3)]))])]
noncomputable def uy:R5 MS:=[
 .iff (.cmp .eq (.idx (.v 0)<|.c<|.int 0)<|.c<|.str [114,101,102]) [.as 0 (.tup [(.c<|.str [114,101,102]),(.lO 1 [(.idx (.v 0)<|.c<|.int 1)]),(.idx (.v 0)<|.c<|.int 2),(.idx (.v 0)<|.c<|.int 3)])] [.iff (.cmp .eq (.idx (.v 0)<|.c<|.int 0)<|.c<|.str [97,100,116]) [.as 0 (.tup [(.c<|.str [97,100,116]),(.idx (.v 0)<|.c<|.int 1),(.aW .tup [(.comp [Sd,Sd,KX 1] (.n 1) (.e<|.idx (.v 0)<|.c<|.int 2) [] (.lO 2 [(.v 1)]))]),(.idx (.v 0)<|.c<|.int 3)])] []],
 .ret (.aM 0 [(.v 0),(.comp [Sd,Sd,Sd,KX 1] (.n 1) (.e<|.aM 1 [(.v 0)]) [] (.aM 3 [(.v 1),(.v 3)]))])]
noncomputable def yV:R5 MS:=[
 .ret (.c .none)]
noncomputable def Gm:R5 MS:=[
 .ret (.aM 3 [(.v 0),(.g 4)])]
noncomputable def Ea:R5 MS:=[
 .iff (.cmp .eq (.idx (.v 0)<|.c<|.int 0)<|.c<|.str [112,97,114,97,109]) [.iff (.cmp .fi (.idx (.v 0)<|.c<|.int 1)<|.v 2) [.ret (.cmp .eq (.idx (.v 2)<|.idx (.v 0)<|.c<|.int 1)<|.v 1)] [],.any,.ret<|.c<|.bool R8] [],
 .iff (.or [(.cmp .ne (.idx (.v 0)<|.c<|.int 0)<|.idx (.v 1)<|.c<|.int 0),(.and [(.cmp .eq (.idx (.v 0)<|.c<|.int 0)<|.c<|.str [105,110,116]),(.cmp .ne (.v 0)<|.v 1)]),(.cmp .fi (.idx (.v 0)<|.c<|.int 0)<|.tup [(.c<|.str [118,97,114]),(.c<|.str [105,110,116,118,97,114])])]) [.ret (.c<|.bool Sj)] [],
 .iff (.or [(.and [(.cmp .eq (.idx (.v 0)<|.c<|.int 0)<|.c<|.str [114,101,102]),(.cmp .ne (.idx (.v 0)<|.c<|.int 2)<|.idx (.v 1)<|.c<|.int 2)]),(.and [(.cmp .eq (.idx (.v 0)<|.c<|.int 0)<|.c<|.str [97,114,114,97,121]),(.cmp .ne (.idx (.v 0)<|.c<|.int 2)<|.idx (.v 1)<|.c<|.int 2)])]) [.ret (.c<|.bool Sj)] [],
 .iff (.and [(.cmp .eq (.idx (.v 0)<|.c<|.int 0)<|.c<|.str [97,100,116]),(.cmp .ne (.idx (.v 0)<|.c<|.int 1)<|.idx (.v 1)<|.c<|.int 1)]) [.ret (.c<|.bool Sj)] [],
 .asT (.t [(.n 3),(.n 4)]) (.tup [(.aM 1 [(.v 0)]),(.aM 1 [(.v 1)])]),
 .iff (.cmp .ne (.aW .len [(.v 3)])<|.aW .len [(.v 4)]) [.ret (.c<|.bool Sj)] [],
 .for (.t [(.n 5),(.n 6)]) (.zip0 (.v 3)<|.v 4) [.iff (.not<|.aM 5 [(.v 5),(.v 6),(.v 2)]) [.ret (.c<|.bool Sj)] []],
 .ret (.c<|.bool R8)]
noncomputable def xY:R5 MS:=[
 .ret (.idx (.idx (.aL (.idx (.aL (.v 2) 0)<|.idx (.v 0)<|.c<|.int 1) 1)<|.v 1)<|.c<|.int 2)]
noncomputable def yY:R5 MS:=[
 .iff (.cmp .eq (.idx (.v 0)<|.c<|.int 0)<|.c<|.str [116,117,112,108,101]) [.ret (.comp [Sd,Sd,Sd,Sd] (.t [(.n 1),(.n 2)]) (.enum<|.idx (.v 0)<|.c<|.int 1) [] (.tup [(.aW .str [(.v 1)]),(.v 2)]))] [],
 .iff (.cmp .ne (.idx (.v 0)<|.c<|.int 0)<|.c<|.str [97,100,116]) [.ret (.lst [])] [],
 .as 3 (.idx (.aL (.v 2) 0)<|.idx (.v 0)<|.c<|.int 1),
 .as 4 (.dz (.aL (.v 3) 2)<|.idx (.v 0)<|.c<|.int 3),
 .as 6 (.dz (.aL (.v 3) 3)<|.idx (.v 0)<|.c<|.int 2),
 .dfn 5,
 .ret (.comp [Sd,Sd,Sd,Sd,Sd,KX 5,KX 4] (.t [(.n 1),(.n 2)]) (.e<|.aM 6 [(.v 0),(.v 1),(.v 2)]) [] (.tup [(.v 1),(.aM 2 [(.aM 3 [(.v 2),(.v 5)]),(.v 6)])]))]
noncomputable def A9:R5 MS:=[
 .for (.n 2) (.e<|.aL (.v 1) 4) [.iff (.and [(.cmp .eq (.aL (.v 2) 5)<|.g 7),(.aM 5 [(.aM 8 [(.aL (.v 2) 6)]),(.aM 8 [(.v 0)]),.oL])]) [.ret (.c<|.bool R8)] []],
 .ret (.c<|.bool Sj)]
noncomputable def yW:R5 MS:=[
 .at (.v 0) 7 (.v 1),
 .at (.v 0) 8 (.v 2),
 .at (.v 0) 9 (.aW .list [(.v 3)]),
 .at (.v 0) 10 (.ite (.cmp .vv (.v 4)<|.c .none) (.lst [])<|.v 4),
 .at (.v 0) 11 (.ite (.cmp .vv (.v 5)<|.c .none) .oL<|.v 5)]
noncomputable def uV:R5 MS:=[
 .ret (.idx (.idx (.aL (.v 0) 9)<|.v 1)<|.c<|.int 0)]
noncomputable def rI:R5 MS:=[
 .ret (.idx (.idx (.aL (.v 0) 10)<|.v 1)<|.c<|.int 0)]
noncomputable def rH:R5 MS:=[
 .ret (.idx (.idx (.aL (.v 0) 10)<|.v 1)<|.c<|.int 1)]
noncomputable def wJ:R5 MS:=[
 .asL 1 [],
 .for (.n 2) (.rng<|.aW .len [(.aL (.v 0) 10)]) [.ext 1 (.comp [Sd,Sd,KX 2] (.n 1) (.rng<|.bin .add (.aW .len [(.aD (.v 0) 12 [(.v 2)])])<|.c<|.int 1) [] (.tup [(.v 2),(.v 1)]))],
 .gH 1,
 .ret (.v 1)]
noncomputable def wU:R5 MS:=[
 .as 1 (.idx (.v 0)<|.c<|.int 0),
 .iff (.cmp .eq (.v 1)<|.c<|.str [103,111,116,111]) [.as 2 (.lst [(.idx (.v 0)<|.c<|.int 1)])] [.iff (.cmp .eq (.v 1)<|.c<|.str [115,119,105,116,99,104]) [.as 2 (.bin .add (.comp [Sd,Sd,Sd] (.t [(.n 1),(.n 2)]) (.e<|.idx (.v 0)<|.c<|.int 2) [] (.v 2))<|.lst [(.idx (.v 0)<|.c<|.int 3)])] [.iff (.cmp .eq (.v 1)<|.c<|.str [99,97,108,108]) [.as 2 (.lst [(.idx (.v 0)<|.c<|.int 4)])] [.iff (.cmp .eq (.v 1)<|.c<|.str [100,114,111,112]) [.as 2 (.lst [(.idx (.v 0)<|.c<|.int 2)])] [.iff (.cmp .eq (.v 1)<|.c<|.str [97,115,115,101,114,116]) [.as 2 (.lst [(.idx (.v 0)<|.c<|.int 4)])] [.as 2 (.lst [])]]]]],
 .asL 4 [],
 .for (.n 3) (.e<|.v 2) [.gH 4,.iff (.and [(.cmp .jw (.v 3)<|.c .none),(.cmp .Hu (.v 3)<|.v 4)]) [.app 4 (.v 3)] []],
 .gH 4,
 .ret (.v 4)]
noncomputable def xR:R5 MS:=[
 .iff (.cmp .eq (.idx (.v 0)<|.c<|.int 0)<|.c<|.str [116,117,112,108,101]) [.ret (.idx (.idx (.v 0)<|.c<|.int 1)<|.v 2)] [],
 .iff (.cmp .eq (.idx (.v 0)<|.c<|.int 0)<|.c<|.str [97,100,116]) [.ret (.idx (.idx (.aM 9 [(.v 0),(.v 1),(.v 3)])<|.v 2)<|.c<|.int 1)] [],
 .any]
noncomputable def zp:R5 MS:=[
 .as 4 (.idx (.v 2)<|.c<|.int 0),
 .iff (.cmp .eq (.v 4)<|.c<|.str [100,111,119,110,99,97,115,116]) [.ret (.tup [(.v 0),(.idx (.v 2)<|.c<|.int 1)])] [],
 .iff (.cmp .eq (.v 4)<|.c<|.str [102,105,101,108,100]) [.ret (.tup [(.aM 10 [(.v 0),(.v 1),(.idx (.v 2)<|.c<|.int 1),(.v 3)]),(.c<|.int 0)])] [],
 .iff (.and [(.cmp .eq (.v 4)<|.c<|.str [100,101,114,101,102]),(.cmp .eq (.idx (.v 0)<|.c<|.int 0)<|.c<|.str [114,101,102])]) [.ret (.tup [(.idx (.v 0)<|.c<|.int 3),(.c<|.int 0)])] [],
 .iff (.or [(.and [(.cmp .eq (.v 4)<|.c<|.str [100,101,114,101,102]),(.cmp .eq (.idx (.v 0)<|.c<|.int 0)<|.c<|.str [98,111,120])]),(.and [(.cmp .eq (.v 4)<|.c<|.str [105,110,100,101,120]),(.cmp .eq (.idx (.v 0)<|.c<|.int 0)<|.c<|.str [97,114,114,97,121])])]) [.ret (.tup [(.idx (.v 0)<|.c<|.int 1),(.c<|.int 0)])] [],
 .any]
noncomputable def yg:R5 MS:=[
 .asT (.t [(.n 3),(.n 4)]) (.tup [(.aD (.v 0) 13 [(.idx (.v 1)<|.c<|.int 0)]),(.c<|.int 0)]),
 .for (.n 5) (.e<|.idx (.v 1)<|.c<|.int 1) [.asT (.t [(.n 3),(.n 4)]) (.aM 11 [(.v 3),(.v 4),(.v 5),(.v 2)])],
 .ret (.v 3)]
noncomputable def wb:R5 MS:=[
 .as 1 (.idx (.v 0)<|.c<|.int 0),
 .iff (.cmp .fi (.v 1)<|.tup [(.c<|.str [117,115,101]),(.c<|.str [98,111,120])]) [.ret (.lst [(.idx (.v 0)<|.c<|.int 1)])] [],
 .iff (.cmp .fi (.v 1)<|.tup [(.c<|.str [98,105,110,97,114,121]),(.c<|.str [99,104,101,99,107,101,100])]) [.ret (.lst [(.idx (.v 0)<|.c<|.int 2),(.idx (.v 0)<|.c<|.int 3)])] [],
 .iff (.cmp .eq (.v 1)<|.c<|.str [117,110,97,114,121]) [.ret (.lst [(.idx (.v 0)<|.c<|.int 2)])] [],
 .iff (.cmp .eq (.v 1)<|.c<|.str [99,97,115,116]) [.ret (.lst [(.idx (.v 0)<|.c<|.int 1)])] [],
 .iff (.cmp .fi (.v 1)<|.tup [(.c<|.str [116,117,112,108,101]),(.c<|.str [97,114,114,97,121])]) [.ret (.aW .list [(.idx (.v 0)<|.c<|.int 1)])] [],
 .ret (.ite (.cmp .eq (.v 1)<|.c<|.str [97,100,116]) (.aW .list [(.idx (.v 0)<|.c<|.int 3)])<|.lst [])]
noncomputable def k7:R5 MS:=[
 .asT (.t [(.n 2),(.n 3)]) (.v 1),
 .iff (.cmp .lt (.v 3)<|.aW .len [(.aD (.v 0) 12 [(.v 2)])]) [.as 4 (.idx (.aD (.v 0) 12 [(.v 2)])<|.v 3),.iff (.cmp .eq (.idx (.v 4)<|.c<|.int 0)<|.c<|.str [97,115,115,105,103,110]) [.ret (.aM 12 [(.idx (.v 4)<|.c<|.int 2)])] [],.ret<|.ite (.cmp .eq (.idx (.v 4)<|.c<|.int 0)<|.c<|.str [112,114,105,110,116]) (.lst [(.idx (.v 4)<|.c<|.int 1)])<|.lst []] [],
 .as 5 (.aD (.v 0) 14 [(.v 2)]),
 .iff (.cmp .eq (.idx (.v 5)<|.c<|.int 0)<|.c<|.str [99,97,108,108]) [.ret (.aW .list [(.idx (.v 5)<|.c<|.int 2)])] [],
 .ret (.ite (.cmp .fi (.idx (.v 5)<|.c<|.int 0)<|.tup [(.c<|.str [115,119,105,116,99,104]),(.c<|.str [97,115,115,101,114,116])]) (.lst [(.idx (.v 5)<|.c<|.int 1)])<|.lst [])]
noncomputable def xB:R5 MS:=[
 .ret (.comp [Sd,Sd] (.n 1) (.e<|.idx (.v 0)<|.c<|.int 1) [(.cmp .eq (.idx (.v 1)<|.c<|.int 0)<|.c<|.str [105,110,100,101,120])] (.idx (.v 1)<|.c<|.int 1))]
noncomputable def vW:R5 MS:=[
 .for (.n 4) (.rng<|.bin .add (.aW .len [(.idx (.idx (.aL (.v 0) 10)<|.v 2)<|.c<|.int 0)])<|.c<|.int 1) [.as 1 (.lO 3 [(.v 1),(.v 2),(.v 4)])],
 .ret (.v 1)]
noncomputable def mL:R5 MS:=[
 .asR 4 (.c .none) (.aW .len [(.aL (.v 0) 10)]),
 .stL 4 (.c<|.int 0) (.v 1),
 .asL 5 [(.c<|.int 0)],
 .whN 5 [.pop 6 5,.gH 4,.as 7<|.aM 13 [(.v 0),(.idx (.v 4)<|.v 6),(.v 6),(.v 2)],.for (.n 8) (.e<|.aM 14 [(.idx (.idx (.aL (.v 0) 10)<|.v 6)<|.c<|.int 1)]) [.gH 4,.as 9<|.idx (.v 4)<|.v 8,.as 10<|.ite (.cmp .vv (.v 9)<|.c .none) (.v 7)<|.lO 3 [(.v 9),(.v 7)],.iff (.or [(.cmp .vv (.v 9)<|.c .none),(.cmp .ne (.v 10)<|.v 9)]) [.stL 4 (.v 8) (.v 10),.gH 5,.iff (.cmp .Hu (.v 8)<|.v 5) [.app 5 (.v 8)] []] []]],
 .gH 4,
 .ret (.v 4)]
noncomputable def rP:R5 MS:=[
 .asD 3,
 .for (.n 4) (.rng<|.aW .len [(.aL (.v 0) 10)]) [.as 5 (.idx (.v 1)<|.v 4),.iff (.cmp .jw (.v 5)<|.c .none) [.for (.n 6) (.rng<|.bin .add (.aW .len [(.idx (.idx (.aL (.v 0) 10)<|.v 4)<|.c<|.int 0)])<|.c<|.int 1) [.stD 3 (.tup [(.v 4),(.v 6)]) (.v 5),.as 5<|.lO 2 [(.v 5),(.v 4),(.v 6)]]] []],
 .gH 3,
 .ret (.v 3)]
noncomputable def nF:R5 MS:=[
 .asT (.t [(.n 2),(.n 3)]) (.v 1),
 .as 4 (.idx (.idx (.aL (.v 0) 10)<|.v 2)<|.c<|.int 0),
 .iff (.and [(.cmp .lt (.v 3)<|.aW .len [(.v 4)]),(.cmp .eq (.idx (.idx (.v 4)<|.v 3)<|.c<|.int 0)<|.c<|.str [97,115,115,105,103,110])]) [.as 5 (.idx (.idx (.v 4)<|.v 3)<|.c<|.int 2),.iff (.cmp .eq (.idx (.v 5)<|.c<|.int 0)<|.c<|.str [114,101,102]) [.ret (.idx (.v 5)<|.c<|.int 3)] [],.iff (.cmp .eq (.idx (.v 5)<|.c<|.int 0)<|.c<|.str [100,105,115,99,114,105,109,105,110,97,110,116]) [.ret (.idx (.v 5)<|.c<|.int 1)] []] [],
 .ret (.c .none)]
noncomputable def lZ:R5 MS:=[
 .asT (.t [(.n 2),(.n 3)]) (.v 1),
 .asT (.t [(.n 4),(.n 5)]) (.idx (.aL (.v 0) 10)<|.v 2),
 .iff (.cmp .lt (.v 3)<|.aW .len [(.v 4)]) [.ret (.ite (.cmp .eq (.idx (.idx (.v 4)<|.v 3)<|.c<|.int 0)<|.c<|.str [97,115,115,105,103,110]) (.idx (.idx (.v 4)<|.v 3)<|.c<|.int 1)<|.c .none)] [],
 .ret (.ite (.cmp .eq (.idx (.v 5)<|.c<|.int 0)<|.c<|.str [99,97,108,108]) (.idx (.v 5)<|.c<|.int 3)<|.c .none)]
noncomputable def ma:R5 MS:=[
 .asT (.t [(.n 2),(.n 3)]) (.v 1),
 .asT (.t [(.n 4),(.n 5)]) (.idx (.aL (.v 0) 10)<|.v 2),
 .ret (.ite (.and [(.cmp .eq (.v 3)<|.aW .len [(.v 4)]),(.cmp .eq (.idx (.v 5)<|.c<|.int 0)<|.c<|.str [100,114,111,112])]) (.idx (.v 5)<|.c<|.int 1)<|.c .none)]
noncomputable def nC:R5 MS:=[
 .asT (.t [(.n 2),(.n 3)]) (.v 1),
 .as 4 (.idx (.idx (.aL (.v 0) 10)<|.v 2)<|.c<|.int 0),
 .iff (.and [(.cmp .lt (.v 3)<|.aW .len [(.v 4)]),(.cmp .fi (.idx (.idx (.v 4)<|.v 3)<|.c<|.int 0)<|.tup [(.c<|.str [108,105,118,101]),(.c<|.str [100,101,97,100])])]) [.ret (.idx (.idx (.v 4)<|.v 3)<|.c<|.int 1)] [],
 .ret (.c .none)]
noncomputable def uu:R5 MS:=[
 .ret (.and [(.cmp .eq (.idx (.v 0)<|.c<|.int 0)<|.c<|.str [97,100,116]),(.aM 15 [(.v 0),(.v 1)])])]
noncomputable def eG:R5 MS:=[
 .at (.v 0) 15 (.v 1),
 .at (.v 0) 16 (.v 2),
 .atL (.v 0) 17 Sj,
 .atL (.v 0) 18 Sj,
 .atL (.v 0) 19 R8,
 .atD (.v 0) 20 .T,
 .atD (.v 0) 21 .I,
 .for (.n 3) (.rng<|.aW .len [(.aL (.v 1) 9)]) [.ex (.aD (.v 0) 22 [(.tup [(.v 3),(.tup [])])])],
 .for (.n 4) (.e<|.aM 16 [(.v 1)]) [.for (.n 5) (.e<|.aM 17 [(.v 1),(.v 4)]) [.iff (.cmp .eq (.idx (.v 5)<|.c<|.int 0)<|.c<|.str [109,111,118,101]) [.ex (.aD (.v 0) 22 [(.aD (.v 0) 23 [(.idx (.v 5)<|.c<|.int 1)])])] []],.for (.n 6) (.e<|.tup [(.aM 18 [(.v 1),(.v 4)]),(.aM 19 [(.v 1),(.v 4)])]) [.iff (.cmp .jw (.v 6)<|.c .none) [.ex (.aD (.v 0) 22 [(.aD (.v 0) 23 [(.v 6)])])] []]],
 .frA (.v 0) 17,
 .frA (.v 0) 18,
 .frA (.v 0) 19,
 .frA (.v 0) 20]
noncomputable def tI:R5 MS:=[
 .iff (.Ao Sj (.v 1) 0 20) [.ret (.xb 0 20<|.v 1)] [],
 .asT (.t [(.n 2),(.n 3)]) (.v 1),
 .as 4 (.ite (.cmp .ne (.v 3)<|.tup []) (.aD (.v 0) 22 [(.tup [(.v 2),(.kH (.v 3)<|.neg<|.c<|.int 1)])])<|.neg<|.c<|.int 1),
 .as 5 (.Ml 0 17),
 .stA (.v 0) 20 (.v 1) (.v 5),
 .apA (.v 0) 17 (.v 1),
 .apA (.v 0) 18 (.v 4),
 .apA0 (.v 0) 19,
 .iff (.cmp .ge (.v 4)<|.c<|.int 0) [.apAK (.v 0) 19 (.v 4) (.v 5)] [],
 .ret (.v 5)]
noncomputable def pw:R5 MS:=[
 .asT (.t [(.n 2),(.n 3)]) (.v 1),
 .for (.n 4) (.rng<|.aW .len [(.v 3)]) [.iff (.cmp .eq (.idx (.idx (.v 3)<|.v 4)<|.c<|.int 0)<|.c<|.str [105,110,100,101,120]) [.ret (.v 4)] [],.iff (.cmp .eq (.idx (.idx (.v 3)<|.v 4)<|.c<|.int 0)<|.c<|.str [100,101,114,101,102]) [.iff (.cmp .eq (.idx (.aM 20 [(.aL (.v 0) 15),(.tup [(.v 2),(.kH (.v 3)<|.v 4)]),(.aL (.v 0) 16)])<|.c<|.int 0)<|.c<|.str [114,101,102]) [.ret (.v 4)] []] []],
 .ret (.aW .len [(.v 3)])]
noncomputable def sV:R5 MS:=[
 .ret (.tup [(.idx (.v 1)<|.c<|.int 0),(.aW .tup [(.kH (.idx (.v 1)<|.c<|.int 1)<|.aD (.v 0) 24 [(.v 1)])])])]
noncomputable def qj:R5 MS:=[
 .ret (.cmp .lt (.aD (.v 0) 24 [(.v 1)])<|.aW .len [(.idx (.v 1)<|.c<|.int 1)])]
noncomputable def jt:R5 MS:=[
 .asT (.t [(.n 2),(.n 3)]) (.aD (.v 0) 23 [(.v 1)]),
 .as 4 (.aW .len [(.v 3)]),
 .wh (.cmp .Hu (.tup [(.v 2),(.kH (.v 3)<|.v 4)])<|.aL (.v 0) 20) [.aug 4 (.c<|.int 1)],
 .ret (.idx (.aL (.v 0) 20)<|.tup [(.v 2),(.kH (.v 3)<|.v 4)])]
noncomputable def gX:R5 MS:=[
 .ret (.and [(.not<|.aD (.v 0) 25 [(.v 1)]),(.cmp .fi (.tup [(.idx (.v 1)<|.c<|.int 0),(.aW .tup [(.idx (.v 1)<|.c<|.int 1)])])<|.aL (.v 0) 20)])]
noncomputable def iI:R5 MS:=[
 .iff (.Ao R8 (.v 1) 0 21) [.as2 2 3 [] [(.v 1)],.whN 3 [.pop 4 3,.app 2<|.v 4,.ext 3 (.idx (.aL (.v 0) 19)<|.v 4)],.gH 2,.stA (.v 0) 21 (.v 1)<|.aW .HF [(.v 2)]] [],
 .ret (.xb 0 21<|.v 1)]
noncomputable def xo:R5 MS:=[
 .as 2 (.idx (.idx (.aL (.v 0) 9)<|.idx (.v 1)<|.c<|.int 0)<|.c<|.int 2),
 .as 3 (.ite (.cmp .vv (.v 2)<|.c .none) (.bin .add (.c<|.str [95])<|.aW .str [(.idx (.v 1)<|.c<|.int 0)])<|.v 2),
 .for (.n 4) (.e<|.idx (.v 1)<|.c<|.int 1) [.iff (.cmp .eq (.idx (.v 4)<|.c<|.int 0)<|.c<|.str [102,105,101,108,100]) [.as 3 (.bin .add (.bin .add (.v 3)<|.c<|.str [46])<|.aW .str [(.idx (.v 4)<|.c<|.int 1)])] [.iff (.cmp .eq (.idx (.v 4)<|.c<|.int 0)<|.c<|.str [100,101,114,101,102]) [.as 3 (.bin .add (.c<|.str [42])<|.v 3)] [.iff (.cmp .eq (.idx (.v 4)<|.c<|.int 0)<|.c<|.str [105,110,100,101,120]) [.as 3 (.bin .add (.bin .add (.bin .add (.v 3)<|.c<|.str [91,95])<|.aW .str [(.idx (.v 4)<|.c<|.int 1)])<|.c<|.str [93])] []]]],
 .ret (.v 3)]
noncomputable def l8:R5 MS:=[
 .at (.v 0) 15 (.v 1),
 .at (.v 0) 26 (.callC 21 [(.v 1),(.v 2)]),
 .atD (.v 0) 27 .T,
 .for (.n 3) (.e<|.aM 16 [(.v 1)]) [.stA (.v 0) 27 (.v 3) (.aD (.v 0) 28 [(.v 3)])],
 .frA (.v 0) 27,
 .at (.v 0) 29 (.aM 22 [(.v 1),(.aM 23 [(.v 1),(.aD (.v 0) 30 []),(.aL (.v 0) 31),(.g 24)]),(.aL (.v 0) 31)])]
noncomputable def pR:R5 MS:=[
 .as 1 (.aW .Pt []),
 .for (.n 2) (.rng<|.aW .len [(.aL (.aL (.v 0) 15) 9)]) [.as 3 (.rZ (.c<|.int 0) (.v 2)<|.aL (.aL (.v 0) 15) 8),.as 1<|.aD (.v 0) 32 [(.v 1),(.aD (.aL (.v 0) 26) 33 [(.tup [(.v 2),(.tup [])])]),(.ite (.v 3) (.g 25)<|.g 26)]],
 .ret (.v 1)]
noncomputable def oK:R5 MS:=[
 .as 4 (.aD (.aL (.v 0) 26) 34 [(.v 2)]),
 .iff (.cmp .eq (.v 3)<|.g 27) [.as 5 (.comp [Sd,Sd,Sd,KX 1] (.n 1) (.e<|.v 4) [(.cmp .fi (.bin .add (.bin .mul (.c<|.int 3)<|.v 1)<|.g 25)<|.v 3)] (.v 1)),.as 6<|.aW .sN [(.comp [Sd,Sd,Sd] (.n 1) (.e<|.v 5) [] (.bin .add (.bin .mul (.c<|.int 3)<|.v 1)<|.g 25))],.ret<|.bin .or (.bin .sub (.v 1)<|.v 6)<|.aW .sN [(.comp [Sd,Sd,Sd] (.n 1) (.e<|.v 5) [] (.bin .add (.bin .mul (.c<|.int 3)<|.v 1)<|.g 28))]] [],
 .as 6 (.aW .sN [(.AX [Sd,Sd,Sd,Sd,Sd,Sd] (.n 1) (.e<|.v 4) (.n 2) (.e<|.tup [(.g 25),(.g 28),(.g 26)])<|.bin .add (.bin .mul (.c<|.int 3)<|.v 1)<|.v 2)]),
 .ret (.bin .or (.bin .sub (.v 1)<|.v 6)<|.aW .sN [(.comp [Sd,Sd,KX 3] (.n 1) (.e<|.v 4) [] (.bin .add (.bin .mul (.c<|.int 3)<|.v 1)<|.v 2))])]
noncomputable def pP:R5 MS:=[
 .ret (.idx (.aL (.v 0) 27)<|.v 1)]
noncomputable def eF:R5 MS:=[
 .asL 2 [],
 .for (.n 3) (.e<|.aM 17 [(.aL (.v 0) 15),(.v 1)]) [.iff (.and [(.cmp .eq (.idx (.v 3)<|.c<|.int 0)<|.c<|.str [109,111,118,101]),(.aD (.aL (.v 0) 26) 35 [(.idx (.v 3)<|.c<|.int 1)])]) [.app 2 (.tup [(.aD (.aL (.v 0) 26) 33 [(.idx (.v 3)<|.c<|.int 1)]),(.g 28)])] []],
 .asT (.t [(.n 4),(.n 5)]) (.tup [(.aM 19 [(.aL (.v 0) 15),(.v 1)]),(.aM 29 [(.aL (.v 0) 15),(.v 1)])]),
 .as 6 (.aM 18 [(.aL (.v 0) 15),(.v 1)]),
 .iff (.and [(.cmp .jw (.v 4)<|.c .none),(.aD (.aL (.v 0) 26) 35 [(.v 4)])]) [.app 2 (.tup [(.aD (.aL (.v 0) 26) 33 [(.v 4)]),(.g 27)])] [],
 .iff (.cmp .jw (.v 5)<|.c .none) [.app 2 (.tup [(.aD (.aL (.v 0) 26) 33 [(.tup [(.v 5),(.tup [])])]),(.g 26)])] [],
 .iff (.and [(.cmp .jw (.v 6)<|.c .none),(.aD (.aL (.v 0) 26) 35 [(.v 6)])]) [.app 2 (.tup [(.aD (.aL (.v 0) 26) 33 [(.v 6)]),(.g 25)])] [],
 .gH 2,
 .ret (.v 2)]
noncomputable def pZ:R5 MS:=[
 .for (.t [(.n 4),(.n 5)]) (.e<|.aD (.v 0) 36 [(.tup [(.v 2),(.v 3)])]) [.as 1 (.aD (.v 0) 32 [(.v 1),(.v 4),(.v 5)])],
 .ret (.v 1)]
noncomputable def sO:R5 MS:=[
 .ret (.get (.aL (.v 0) 29) [(.v 1)])]
noncomputable def oa:R5 MS:=[
 .ret (.cmp .fi (.bin .add (.bin .mul (.c<|.int 3)<|.v 2)<|.v 3)<|.v 1)]
noncomputable def kW:R5 MS:=[
 .as 2 (.aD (.aL (.v 0) 26) 33 [(.v 1)]),
 .ret (.ite (.aD (.aL (.v 0) 26) 35 [(.v 1)]) (.aD (.aL (.v 0) 26) 34 [(.v 2)])<|.lst [(.v 2)])]
noncomputable def iu:R5 MS:=[
 .at (.v 0) 15 (.v 1),
 .at (.v 0) 16 (.v 2),
 .at (.v 0) 37 (.callC 30 [(.v 1),(.v 2)]),
 .atL (.v 0) 38 Sj]
noncomputable def fP:R5 MS:=[
 .as 5 (.get (.aL (.aL (.v 0) 15) 11) [(.v 1),(.c<|.int 0)]),
 .apA (.v 0) 38 (.tup [(.v 1),(.rE 31 [(.v 2),(.aM 32 [(.aL (.v 0) 15),(.v 3)]),(.v 5),(.v 4)])])]
noncomputable def gT:R5 MS:=[
 .asL 3 [],
 .for (.n 4) (.e<|.aM 16 [(.aL (.v 0) 15)]) [.for (.t [(.n 5),(.n 6)]) (.e<|.aD (.aL (.v 0) 37) 36 [(.v 4)]) [.as 7 (.or [(.cmp .eq (.v 6)<|.v 2),(.and [(.cmp .eq (.v 6)<|.g 27),(.cmp .eq (.v 2)<|.g 28)])]),.iff (.and [(.v 7),(.cmp .ne (.comp [Sd,Sd,KX 5,KX 0] (.n 1) (.e<|.v 1) [(.cmp .fi (.v 1)<|.aD (.aL (.aL (.v 3) 37) 26) 34 [(.v 2)])] (.v 1))<|.lst [])]) [.app 3 (.v 4)] []]],
 .gH 3,
 .ret (.v 3)]
noncomputable def lu:R5 MS:=[
 .for (.t [(.n 5),(.n 6)]) (.e<|.tup [(.tup [(.g 28),(.c<|.str [117,115,101,32,111,102,32,109,111,118,101,100])]),(.tup [(.g 26),(.c<|.str [117,115,101,32,111,102,32,117,110,105,110,105,116,105,97,108,105,115,101,100])])]) [.as 7 (.comp [Sd,Sd,KX 2,KX 0,KX 5] (.n 1) (.e<|.v 4) [(.aD (.aL (.v 3) 37) 39 [(.v 2),(.v 1),(.v 4)])] (.v 1)),.iff (.cmp .ne (.v 7)<|.lst []) [.ex (.aD (.v 0) 40 [(.v 1),(.v 6),(.v 3),(.aD (.v 0) 41 [(.v 7),(.v 5)])]),.ret0] []]]
noncomputable def f9:R5 MS:=[
 .for (.n 4) (.e<|.aM 33 [(.v 3)]) [.ex (.aD (.v 0) 42 [(.v 1),(.v 2),(.tup [(.v 4),(.tup [])]),(.aD (.aL (.v 0) 37) 43 [(.tup [(.v 4),(.tup [])])])])],
 .ex (.aD (.v 0) 42 [(.v 1),(.v 2),(.v 3),(.aD (.aL (.v 0) 37) 43 [(.v 3)])])]
noncomputable def jW:R5 MS:=[
 .asT (.t [(.n 3),(.n 4)]) (.v 2),
 .iff (.aD (.aL (.aL (.v 0) 37) 26) 25 [(.v 2)]) [.ex (.aD (.v 0) 40 [(.v 1),(.c<|.str [109,111,118,101,32,111,117,116,32,111,102,32,97,32,114,101,102,101,114,101,110,99,101]),(.v 2)]),.ret0] [],
 .for (.n 5) (.rng<|.aW .len [(.v 4)]) [.iff (.aM 34 [(.aM 20 [(.aL (.v 0) 15),(.tup [(.v 3),(.kH (.v 4)<|.v 5)]),(.aL (.v 0) 16)]),(.aL (.v 0) 16)]) [.ex (.aD (.v 0) 40 [(.v 1),(.c<|.str [109,111,118,101,32,111,117,116,32,111,102,32,97,32,114,101,102,101,114,101,110,99,101]),(.v 2)]),.ret0] []]]
noncomputable def jm:R5 MS:=[
 .as 4 (.aL (.aL (.v 0) 37) 26),
 .for (.n 5) (.e<|.aM 33 [(.v 3)]) [.ex (.aD (.v 0) 42 [(.v 1),(.v 2),(.tup [(.v 5),(.tup [])]),(.aD (.aL (.v 0) 37) 43 [(.tup [(.v 5),(.tup [])])])])],
 .iff (.aD (.v 4) 25 [(.v 3)]) [.ex (.aD (.v 0) 42 [(.v 1),(.v 2),(.v 3),(.aD (.aL (.v 0) 37) 43 [(.aD (.v 4) 23 [(.v 3)])])])] [.iff (.cmp .ne (.idx (.v 3)<|.c<|.int 1)<|.tup []) [.ex (.aD (.v 0) 42 [(.v 1),(.v 2),(.v 3),(.lst [(.aD (.v 4) 33 [(.tup [(.idx (.v 3)<|.c<|.int 0),(.kH (.idx (.v 3)<|.c<|.int 1)<|.neg<|.c<|.int 1)])])])])] [.asT (.t [(.n 6),(.n 7),(.n 8)]) (.idx (.aL (.aL (.v 0) 15) 9)<|.idx (.v 3)<|.c<|.int 0),.as 9<|.aD (.v 4) 33 [(.v 3)],.iff (.and [(.cmp .jw (.v 8)<|.c .none),(.not<|.v 7),(.not<|.aD (.v 0) 44 [(.v 2),(.v 9)])]) [.ex (.aD (.v 0) 40 [(.v 1),(.c<|.str [97,115,115,105,103,110,32,116,119,105,99,101]),(.v 3)])] []]]]
noncomputable def nE:R5 MS:=[
 .ret (.and [(.not<|.aD (.aL (.v 0) 37) 39 [(.v 1),(.v 2),(.g 25)]),(.not<|.aD (.aL (.v 0) 37) 39 [(.v 1),(.v 2),(.g 28)])])]
noncomputable def ik:R5 MS:=[
 .as 2 (.aD (.aL (.v 0) 37) 45 [(.v 1)]),
 .iff (.cmp .vv (.v 2)<|.c .none) [.ret0] [],
 .for (.n 3) (.e<|.aM 17 [(.aL (.v 0) 15),(.v 1)]) [.iff (.cmp .eq (.idx (.v 3)<|.c<|.int 0)<|.c<|.str [99,111,110,115,116]) [.cont] [],.ex<|.aD (.v 0) 46 [(.v 1),(.v 2),(.idx (.v 3)<|.c<|.int 1)],.iff (.cmp .eq (.idx (.v 3)<|.c<|.int 0)<|.c<|.str [109,111,118,101]) [.ex (.aD (.v 0) 47 [(.v 1),(.idx (.v 3)<|.c<|.int 1)]),.iff (.aD (.aL (.aL (.v 0) 37) 26) 35 [(.idx (.v 3)<|.c<|.int 1)]) [.as 2 (.aD (.aL (.v 0) 37) 32 [(.v 2),(.aD (.aL (.aL (.v 0) 37) 26) 33 [(.idx (.v 3)<|.c<|.int 1)]),(.g 28)])] []] []],
 .as 4 (.aM 35 [(.aL (.v 0) 15),(.v 1)]),
 .iff (.cmp .jw (.v 4)<|.c .none) [.ex (.aD (.v 0) 46 [(.v 1),(.v 2),(.v 4)])] [],
 .as 5 (.aM 18 [(.aL (.v 0) 15),(.v 1)]),
 .iff (.cmp .jw (.v 5)<|.c .none) [.ex (.aD (.v 0) 48 [(.v 1),(.v 2),(.v 5)])] []]
noncomputable def lq:R5 MS:=[
 .for (.n 1) (.e<|.aM 16 [(.aL (.v 0) 15)]) [.ex (.aD (.v 0) 49 [(.v 1)])],
 .frA (.v 0) 38,
 .ret (.aL (.v 0) 38)]
noncomputable def qO:R5 MS:=[
 .ret (.aD (.callC 36 [(.v 0),(.v 1)]) 50 [])]
noncomputable def BX:R5 MS:=[
 .at (.v 0) 51 (.v 1),
 .at (.v 0) 52 (.v 6),
 .at (.v 0) 3 (.v 2),
 .at (.v 0) 2 (.v 3),
 .at (.v 0) 1 (.v 4),
 .at (.v 0) 53 (.v 7),
 .at (.v 0) 54 (.v 5)]
noncomputable def uQ:R5 MS:=[
 .at (.v 0) 55 (.v 1),
 .at (.v 0) 3 (.v 2),
 .at (.v 0) 2 (.v 3),
 .at (.v 0) 5 (.v 4),
 .at (.v 0) 56 (.v 5),
 .at (.v 0) 6 (.v 6),
 .at (.v 0) 57 (.v 7),
 .at (.v 0) 58 (.v 8)]
noncomputable def ye:R5 MS:=[
 .at (.v 0) 59 (.v 1),
 .atD (.v 0) 0 .S,
 .at (.v 0) 1 .oL,
 .at (.v 0) 60 .oL,
 .at (.v 0) 61 .oL,
 .atL (.v 0) 4 Sj,
 .at (.v 0) 62 .oL,
 .at (.v 0) 63 .oL]
noncomputable def nG:R5 MS:=[
 .as 2 (.c<|.int 0),
 .iff (.cmp .lt (.v 1)<|.aW .len [(.v 0)]) [.as 2 (.idx (.v 0)<|.v 1)] [],
 .as 3 (.aW .max [(.aW .int [(.v 2)]),(.aW .int [(.bin .sub (.neg<|.c<|.int 1)<|.v 2)])]),
 .as 4 (.bin .mod (.aW .int [(.bin .mul (.bin .add (.bin .add (.bin .add (.bin .mod (.aW .int [(.v 3)])<|.c<|.int 2147483629)<|.bin .mul (.bin .mul (.c<|.int 7919)<|.v 1)<|.v 1)<|.bin .mul (.c<|.int 31)<|.v 1)<|.c<|.int 17)<|.c<|.int 48271)])<|.c<|.int 2147483647),
 .ret (.lst [(.bin .mul (.v 3)<|.aW .int [(.cmp .ge (.v 3)<|.bin .pow (.c<|.int 10)<|.c<|.int 18)]),(.v 4)])]
noncomputable def nO:R5 MS:=[
 .iff (.cmp .gt (.idx (.v 0)<|.c<|.int 0)<|.c<|.int 0) [.as 2 (.bin .mod (.aW .int [(.idx (.v 0)<|.c<|.int 0)])<|.v 1),.stB 0 (.c<|.int 0)<|.bin .fdiv (.idx (.v 0)<|.c<|.int 0)<|.v 1,.ret<|.v 2] [],
 .stB 0 (.c<|.int 1) (.bin .mod (.aW .int [(.bin .add (.bin .mul (.idx (.v 0)<|.c<|.int 1)<|.c<|.int 39373)<|.c<|.int 7)])<|.c<|.int 2147483647),
 .ret (.bin .mod (.aW .int [(.bin .fdiv (.bin .mod (.aW .int [(.bin .mul (.idx (.v 0)<|.c<|.int 1)<|.idx (.v 0)<|.c<|.int 1)])<|.c<|.int 2147483629)<|.c<|.int 32)])<|.v 1)]
noncomputable def tS:R5 MS:=[
 .ret (.idx (.v 1)<|.aM 37 [(.v 0),(.aW .len [(.v 1)])])]
noncomputable def ze:R5 MS:=[
 .ret (.tup [(.c<|.str [116,117,112,108,101]),(.tup [(.g 38),(.g 38)])])]
noncomputable def xy:R5 MS:=[
 .as 0 (.callC 39 [(.c .none)]),
 .stA (.v 0) 0 (.c<|.str [68]) (.callC 40 [(.c<|.str [68]),(.tup []),(.tup []),(.lst [(.tup [(.c<|.str [68]),(.c<|.str [116,117,112,108,101]),(.lst [(.tup [(.c<|.str [48]),(.g 38)]),(.tup [(.c<|.str [49]),(.g 38)])])])]),(.c<|.bool Sj)]),
 .stA (.v 0) 0 (.c<|.str [83]) (.callC 40 [(.c<|.str [83]),(.tup []),(.tup []),(.lst [(.tup [(.c<|.str [83]),(.c<|.str [116,117,112,108,101]),(.lst [(.tup [(.c<|.str [48]),(.tup [(.c<|.str [97,100,116]),(.c<|.str [68]),(.tup []),(.tup [])])]),(.tup [(.c<|.str [49]),(.g 38)])])])]),(.c<|.bool Sj)]),
 .apA (.v 0) 4 (.callC 41 [(.c<|.int 0),(.tup []),(.tup []),(.c<|.str [68,114,111,112]),(.tup []),(.tup [(.c<|.str [97,100,116]),(.c<|.str [68]),(.tup []),(.tup [])]),.oL]),
 .frA (.v 0) 0,
 .frA (.v 0) 4,
 .ret (.v 0)]
noncomputable def vX:R5 MS:=[
 .as 0 (.lst [(.tup [(.c<|.str [105,110,116]),(.c<|.str [105,51,50])]),(.tup [(.c<|.str [114,101,102]),(.c .none),(.c<|.bool Sj),(.aM 42 [])]),(.tup [(.c<|.str [97,114,114,97,121]),(.g 38),(.c<|.int 2)]),(.tup [(.c<|.str [97,100,116]),(.c<|.str [68]),(.tup []),(.tup [])])]),
 .as 0 (.bin .add (.v 0)<|.lst [(.tup [(.c<|.str [97,100,116]),(.c<|.str [83]),(.tup []),(.tup [])]),(.tup [(.c<|.str [98,111,120]),(.aM 42 [])]),(.g 43),(.tup [(.c<|.str [114,101,102]),(.c .none),(.c<|.bool R8),(.g 38)])]),
 .ret (.comp [Sd,Sd] (.n 1) (.e<|.bin .add (.v 0)<|.lst [(.g 38),(.g 43)]) [] (.tup [(.v 1),(.c<|.bool R8),(.c<|.str [120])]))]
noncomputable def yX:R5 MS:=[
 .asT (.t [(.n 0),(.n 1),(.n 2)]) (.tup [(.tup [(.c<|.str [102,105,101,108,100]),(.c<|.int 0)]),(.tup [(.c<|.str [102,105,101,108,100]),(.c<|.int 1)]),(.tup [(.c<|.str [100,101,114,101,102])])]),
 .as 3 (.lst [(.tup [(.c<|.int 1),(.tup []),(.c<|.int 0),(.c<|.bool Sj)]),(.tup [(.c<|.int 1),(.tup [(.v 2)]),(.c<|.int 0),(.c<|.bool Sj)]),(.tup [(.c<|.int 1),(.tup [(.v 2),(.v 0)]),(.c<|.int 0),(.c<|.bool Sj)]),(.tup [(.c<|.int 2),(.tup [(.tup [(.c<|.str [105,110,100,101,120]),(.c<|.int 6)])]),(.c<|.int 0),(.c<|.bool Sj)])]),
 .as 3 (.bin .add (.v 3)<|.lst [(.tup [(.c<|.int 2),(.tup [(.tup [(.c<|.str [105,110,100,101,120]),(.c<|.int 9)])]),(.c<|.int 0),(.c<|.bool Sj)]),(.tup [(.c<|.int 3),(.tup []),(.c<|.int 0),(.c<|.bool Sj)]),(.tup [(.c<|.int 3),(.tup [(.v 0)]),(.c<|.int 1),(.c<|.bool R8)]),(.tup [(.c<|.int 3),(.tup [(.v 1)]),(.c<|.int 1),(.c<|.bool R8)])]),
 .as 3 (.bin .add (.v 3)<|.lst [(.tup [(.c<|.int 4),(.tup []),(.c<|.int 0),(.c<|.bool Sj)]),(.tup [(.c<|.int 4),(.tup [(.v 0)]),(.c<|.int 1),(.c<|.bool Sj)]),(.tup [(.c<|.int 4),(.tup [(.v 0),(.v 0)]),(.c<|.int 2),(.c<|.bool R8)]),(.tup [(.c<|.int 4),(.tup [(.v 1)]),(.c<|.int 1),(.c<|.bool Sj)])]),
 .as 3 (.bin .add (.v 3)<|.lst [(.tup [(.c<|.int 5),(.tup []),(.c<|.int 0),(.c<|.bool Sj)]),(.tup [(.c<|.int 5),(.tup [(.v 2)]),(.c<|.int 1),(.c<|.bool Sj)]),(.tup [(.c<|.int 5),(.tup [(.v 2),(.v 1)]),(.c<|.int 2),(.c<|.bool Sj)]),(.tup [(.c<|.int 7),(.tup []),(.c<|.int 0),(.c<|.bool Sj)])]),
 .ret (.bin .add (.v 3)<|.lst [(.tup [(.c<|.int 7),(.tup [(.v 2)]),(.c<|.int 0),(.c<|.bool Sj)]),(.tup [(.c<|.int 2),(.tup []),(.c<|.int 0),(.c<|.bool Sj)])])]
noncomputable def wK:R5 MS:=[
 .ret (.and [(.cmp .eq (.idx (.v 0)<|.c<|.int 0)<|.idx (.v 1)<|.c<|.int 0),(.cmp .eq (.kH (.idx (.v 0)<|.c<|.int 1)<|.aW .len [(.idx (.v 1)<|.c<|.int 1)])<|.idx (.v 1)<|.c<|.int 1)])]
noncomputable def qB:R5 MS:=[
 .asT (.t [(.n 3),(.n 4),(.n 5),(.n 6)]) (.v 1),
 .asT (.t [(.n 7),(.n 8)]) (.tup [(.tup [(.v 3),(.kH (.v 4)<|.v 5)]),(.cmp .lt (.v 5)<|.aW .len [(.v 4)])]),
 .asR 9 (.c<|.str [117,115,101,32,111,102,32,117,110,105,110,105,116,105,97,108,105,115,101,100]) (.aW .int [(.cmp .fi (.tup [(.c<|.str [105,110,100,101,120]),(.c<|.int 9)])<|.v 4)]),
 .iff (.cmp .ne (.comp [Sd,Sd,Sd,KX 8,KX 7] (.n 1) (.e<|.v 0) [(.or [(.aM 44 [(.v 4),(.v 1)]),(.and [(.not<|.v 3),(.aM 44 [(.v 1),(.v 4)])])])] (.v 1))<|.lst []) [.app 9 (.c<|.str [117,115,101,32,111,102,32,109,111,118,101,100])] [],
 .gH 9,
 .ret (.bin .add (.v 9)<|.bin .mul (.lst [(.c<|.str [109,111,118,101,32,111,117,116,32,111,102,32,97,32,114,101,102,101,114,101,110,99,101])])<|.aW .int [(.and [(.v 2),(.or [(.v 8),(.v 6)])])])]
noncomputable def nT:R5 MS:=[
 .asT (.t [(.n 1),(.n 2)]) (.tup [(.aM 45 [(.v 0),(.aM 46 [])]),(.aM 37 [(.v 0),(.c<|.int 5)])]),
 .iff (.cmp .eq (.v 2)<|.c<|.int 4) [.as 1 (.tup [(.idx (.v 1)<|.c<|.int 0),(.tup []),(.c<|.int 0),(.c<|.bool Sj)]),.ret<|.lst [(.tup [(.c<|.str [97,115,115,105,103,110]),(.tup [(.idx (.v 1)<|.c<|.int 0),(.tup [])]),(.tup [(.c<|.str [117,115,101]),(.tup [(.c<|.str [99,111,110,115,116]),(.tup [(.c<|.str [105,110,116]),(.c<|.str [105,51,50])]),(.c<|.int 0)])])]),(.v 1),(.c<|.str [97,110,101,119])]] [],
 .as 3 (.ite (.cmp .eq (.v 2)<|.c<|.int 3) (.c<|.str [99,111,112,121])<|.c<|.str [109,111,118,101]),
 .ret (.lst [(.tup [(.c<|.str [97,115,115,105,103,110]),(.tup [(.c<|.int 8),(.tup [])]),(.tup [(.c<|.str [117,115,101]),(.tup [(.v 3),(.tup [(.idx (.v 1)<|.c<|.int 0),(.idx (.v 1)<|.c<|.int 1)])])])]),(.v 1),(.v 3)])]
noncomputable def G9:R5 MS:=[
 .asB 1 2 47 [(.v 0),(.c<|.int 0)] (.aM 46 []),
 .asL 3 [(.lst [(.tup [(.c<|.str [97,115,115,105,103,110]),(.tup [(.c<|.int 8),(.tup [])]),(.tup [(.c<|.str [117,115,101]),(.tup [(.c<|.str [109,111,118,101]),(.tup [(.c<|.int 4),(.idx (.idx (.v 2)<|.c<|.int 10)<|.c<|.int 1)])])])]),(.idx (.v 2)<|.c<|.int 10),(.c<|.str [109,111,118,101])])],
 .for (.n 4) (.rng<|.bin .add (.c<|.int 1)<|.aM 37 [(.v 1),(.c<|.int 7)]) [.app 3 (.aM 48 [(.v 1)])],
 .as2 5 6 [] [],
 .gH 3,
 .for (.t [(.n 7),(.t [(.n 8),(.n 9),(.n 10)])]) (.enum<|.v 3) [.as 11 (.tup [(.idx (.v 9)<|.c<|.int 0),(.kH (.idx (.v 9)<|.c<|.int 1)<|.idx (.v 9)<|.c<|.int 2)]),.iff (.cmp .eq (.v 10)<|.c<|.str [97,110,101,119]) [.gH 5,.asC 5<|.comp [Sd,Sd,Sd,KX 11] (.n 1) (.e<|.v 5) [(.not<|.aM 44 [(.v 1),(.v 3)])] (.v 1),.cont] [],.gH 6,.as 6<|.bin .add (.v 6)<|.comp [Sd,Sd,KX 7] (.n 1) (.cb 49 [(.v 5),(.v 9),(.cmp .eq (.v 10)<|.c<|.str [109,111,118,101])]) [] (.tup [(.tup [(.c<|.int 0),(.v 2)]),(.v 1)]),.iff (.and [(.cmp .eq (.v 10)<|.c<|.str [109,111,118,101]),(.cmp .eq (.idx (.v 9)<|.c<|.int 2)<|.aW .len [(.idx (.v 9)<|.c<|.int 1)])]) [.app 5 (.v 11)] []],
 .gH 3,
 .as 12 (.callC 50 [(.c<|.str [103]),(.c<|.int 7),(.aM 51 []),(.lst [(.lst [(.comp [Sd,Sd,Sd,Sd] (.t [(.n 1),(.n 2),(.n 3)]) (.e<|.v 3) [] (.v 1)),(.tup [(.c<|.str [114,101,116,117,114,110])])])])]),
 .gH 6,
 .ret (.cmp .eq (.comp [Sd,Sd,Sd] (.t [(.n 1),(.n 2)]) (.e<|.aM 52 [(.v 12),(.aM 53 [])]) [] (.tup [(.v 1),(.aL (.v 2) 64)]))<|.v 6)]
def yt:R5 iO:=[
 ⟨1,[],2,Bo⟩,
 ⟨2,[],4,C4⟩,
 ⟨2,[],4,v8⟩,
 ⟨2,[],5,uy⟩,
 ⟨1,[],1,yV⟩,
 ⟨1,[],3,Gm⟩,
 ⟨3,[],11,Ea⟩,
 ⟨3,[],3,xY⟩,
 ⟨3,[],11,yY⟩,
 ⟨2,[],6,A9⟩,
 ⟨6,[.none,.none],7,yW⟩,
 ⟨2,[],2,uV⟩,
 ⟨2,[],2,rI⟩,
 ⟨2,[],2,rH⟩,
 ⟨1,[],5,wJ⟩,
 ⟨1,[],5,wU⟩,
 ⟨4,[],6,xR⟩,
 ⟨4,[],7,zp⟩,
 ⟨3,[],7,yg⟩,
 ⟨1,[],3,wb⟩,
 ⟨2,[],9,k7⟩,
 ⟨1,[],1,xB⟩,
 ⟨4,[],7,vW⟩,
 ⟨4,[],14,mL⟩,
 ⟨3,[],9,rP⟩,
 ⟨2,[],7,nF⟩,
 ⟨2,[],7,lZ⟩,
 ⟨2,[],7,ma⟩,
 ⟨2,[],6,nC⟩,
 ⟨2,[],3,uu⟩,
 ⟨3,[],13,eG⟩,
 ⟨2,[],7,tI⟩,
 ⟨2,[],8,pw⟩,
 ⟨2,[],3,sV⟩,
 ⟨2,[],3,qj⟩,
 ⟨2,[],6,jt⟩,
 ⟨2,[],3,gX⟩,
 ⟨2,[],6,iI⟩,
 ⟨2,[],6,xo⟩,
 ⟨3,[],9,l8⟩,
 ⟨1,[],9,pR⟩,
 ⟨4,[],9,oK⟩,
 ⟨2,[],2,pP⟩,
 ⟨2,[],15,eF⟩,
 ⟨4,[],6,pZ⟩,
 ⟨2,[],2,sO⟩,
 ⟨4,[],4,oa⟩,
 ⟨2,[],3,kW⟩,
 ⟨3,[],4,iu⟩,
 ⟨5,[(.tup [])],8,fP⟩,
 ⟨3,[],11,gT⟩,
 ⟨5,[],10,lu⟩,
 ⟨4,[],6,f9⟩,
 ⟨3,[],10,jW⟩,
 ⟨4,[],11,jm⟩,
 ⟨3,[],5,nE⟩,
 ⟨2,[],10,ik⟩,
 ⟨1,[],3,lq⟩,
 ⟨2,[],3,qO⟩,
 ⟨8,[(.str []),(.tup [])],8,BX⟩,
 ⟨9,[(.int 0)],9,uQ⟩,
 ⟨2,[.none],2,ye⟩,
 ⟨2,[],8,nG⟩,
 ⟨2,[],4,nO⟩,
 ⟨2,[],4,tS⟩,
 ⟨0,[],1,ze⟩,
 ⟨0,[],5,xy⟩,
 ⟨0,[],4,vX⟩,
 ⟨0,[],4,yX⟩,
 ⟨2,[],3,wK⟩,
 ⟨3,[],12,qB⟩,
 ⟨1,[],7,nT⟩,
 ⟨1,[],25,G9⟩]
noncomputable def Lh:R5 rO:=[
 ⟨10,R8,[(13,11),(12,12),(14,13),(58,75)]⟩,
 ⟨30,Sj,[(22,31),(24,32),(23,33),(25,34),(33,35),(35,36),(34,37)]⟩,
 ⟨39,Sj,[(30,40),(32,41),(36,42),(28,43),(31,44),(45,45),(39,46),(43,47)]⟩,
 ⟨48,Sj,[(40,49),(41,50),(42,51),(46,52),(47,53),(48,54),(44,55),(49,56),(50,57)]⟩,
 ⟨59,R8,[]⟩,
 ⟨60,R8,[]⟩,
 ⟨61,Sj,[]⟩]
noncomputable def LN:R5 AV:=[.fn 1,.fn 0,.fn 2,.fn 3,.fn 4,.fn 6,.fn 7,.str [68,114,111,112],.fn 5,.fn 8,.fn 16,.fn 17,.fn 19,.fn 22,.fn 15,.fn 9,.fn 14,.fn 20,.fn 26,.fn 27,.fn 18,.cls 1,.fn 24,.fn 23,.lj,.int 0,.int 2,.int 3,.int 1,.fn 28,.cls 2,.lj,.fn 38,.fn 21,.fn 29,.fn 25,.cls 3,.fn 63,.tup [(.str [98,111,120]),(.tup [(.str [105,110,116]),(.str [105,51,50])])],.cls 6,.cls 4,.cls 5,.fn 65,.tup [(.str [105,110,116]),(.str [117,115,105,122,101])],.fn 69,.fn 64,.fn 68,.fn 62,.fn 71,.fn 70,.cls 0,.fn 67,.fn 58,.fn 66]
def P:PD:={bW:=LN,fns:=yt,cls:=Lh,kind:=64}
noncomputable def N5:R5 String:=["adts","variants","params","regions","impls","trait","self_type","name","arg_count","locals","blocks","spots","statements","type_of","terminator","body","world","places","parents","kids","numbers","lots","add","cut","depth_of","is_cut","paths","done","deeds_of","facts","begin","step","turned","number_of","below","is_exact","deeds","moves","found","may_be","fault","makers","use","asked","is_fresh","at","read","moved","written","look","all","path","module","publics","is_enum","number","trait_args","methods","spot","modules","sigs","traits","consts","bodies","kind"]
noncomputable def NG:R5 String:=["rebuilt","parts_of","substituted","with_regions","no_region","matched","field_rows","DROP","erased","fields_of","field_type","projected","operands_of","through","successors","has_drop","points","operands_at","written_at","dropped_at","place_type","MovePaths","all_facts","solve_forward","joined","READY","UNSET","DROPPED","MOVED","turned_at","Moves","BorrowFault","place_text","indices_of","has_own_drop","looked_at","MoveChecker","_law_take","_law_BOX","World","Adt","ImplRow","_law_PAIR","_law_USIZE","_law_is_in","_law_one","_law_rows","_law_pool","_law_line","_law_kinds","Body","_law_locals","use_faults","_law_world"]
end
noncomputable section
open PySem PySem.W PySem.Spec PySem.Calls PyProof.Rows
variable{W W' aj W₀ aT W'':Wd}{n k j c f ep k1 jn k2 c':Sf}{S:bf}{s ai s':Sn}{A:Vj}{E Q G:Se->Sn->Prop}{tb:gh}{T:cU}{ks:R5 (SS×VK)}{env:Xz}{P:PD}{loc loc':Loc}{r:Rec}{H H' H1 H2:Hp}{a d C D I ax tp l1 TI TO i1 i2:SJ}{p pos p' p1 p2 ap p3 p0 p6:Vu}{v q u it:Se}{l vs xs acc vs':R5 AV}{sv sv0 sv':SV}{ℓ abx:aF}{es:R5 Sk}{y e tg z el ox fE it2 it1:SE}{prog:Wm}{w:Yd}{fl:Fl}{b neg:Sq}{α β:Type}{o:Xl}{t tk:Tok}{K K':SK->Prop}{M:Model}{us ws:R5 Se}{as:R5 SJ}{sc:Xk}{R:ZG->Sn->Prop}{h' B:Tu}{Φ Φ':Wd->Prop}{es':Td (SK×Se)}{cap:R5 (Sh Sf)}{t':Uk}{kk elt:ME}{mA:SS->Sh Se}{name at' nm:SS}{ℓk:Sf->aF}{vk:VK}{J:Sf->Wd->Prop}{Jm:Sf->Se->Wd->Prop}{ts cs:R5 SE}{Z:Prop}{bb sts:R5 T1}{src:Src}{newId:WO}{ifs:R5 ME}
section
def all2{α β:Type}(f:α->β->Sq)(l:R5 α):R5 β->Bool:=S8 (aJ R8) (λx O ih=>aV λy ys=>f x y&&ih ys) l
noncomputable def Ba(v:Se):Bool:=match v with|.none=>R8|_=>Sj
noncomputable def vBool(f:Sq->Sq)(v:Se):Bool:=match v with|.bool a=>f a|_=>Sj
noncomputable def vInt(f:SK->Sq)(v:Se):Bool:=match v with|.int a _=>f a|_=>Sj
noncomputable def vStr(f:SS->Sq)(v:Se):Bool:=match v with|.str a _=>f a|_=>Sj
noncomputable def xf(f:SJ->Sq)(v:Se):Bool:=match v with|.ref a=>f a|_=>Sj
noncomputable def Ew(f:Td Se->Sq)(d:Data):Bool:=match d with|.seq a _=>f a|_=>Sj
noncomputable def zR(f:Td Se->Sq)(d:Data):Bool:=match d with|.fields a=>f a|_=>Sj
noncomputable def tU(f:Wa->Sq)(d:Data):Bool:=match d with|.func a=>f a|_=>Sj
noncomputable def oE(f:R5 T1->Sq)(d:aaX):Bool:=match d with|.stmts a=>f a|_=>Sj
section
variable{d:Data}{P:Se->Prop}{D:Data->Prop}
theorem xI(k:P .none):Ba v=R8->P v:=by induction v using V3<;>first|exact λu0=>k|exact bc
theorem Gb{f:Sq->Sq}(k:∀x,f x=R8->P (.bool x)):vBool f v=R8->P v:=by induction v using V3<;>first|exact k _|exact bc
theorem JY{f:SK->Sq}(k:∀x t,f x=R8->P (.int x t)):vInt f v=R8->P v:=by induction v using V3<;>first|exact k _ _|exact bc
theorem zI{f:SS->Sq}(k:∀x t,f x=R8->P (.str x t)):vStr f v=R8->P v:=by induction v using V3<;>first|exact k _ _|exact bc
theorem rz{f:SJ->Sq}(k:∀x,f x=R8->P (.ref x)):xf f v=R8->P v:=by induction v using V3<;>first|exact k _|exact bc
theorem zU{f:Td Se->Sq}(k:∀x n,f x=R8->D (.seq x n)):Ew f d=R8->D d:=by induction d using Wo<;>first|exact k _ _|exact bc
theorem AF{f:Td Se->Sq}(k:∀x,f x=R8->D (.fields x)):zR f d=R8->D d:=by induction d using Wo<;>first|exact k _|exact bc
theorem Gk{f:Wa->Sq}(k:∀x,f x=R8->D (.func x)):tU f d=R8->D d:=by induction d using Wo<;>first|exact k _|exact bc
theorem C7{f:R5 T1->Sq}{d:aaX}{D:aaX->Prop}(k:∀x,f x=R8->D (.stmts x)):oE f d=R8->D d:=by induction d using FuncBody.casesOn<;>first|exact k _|exact bc
end
def yH(K:Wz)(f:Xl->Sq)(a:SJ):Bool:=eD f<|K.lookup a
def D8(f:R5 Se->Sq)(o:Xl):Bool:=(o.cls==.type "tuple")&&o.dict.isNone&&o.slots.isEmpty&&Ew (λvs=>f vs.toList) o.data
theorem DG{f:R5 Se->Sq}{P:Xl->Prop}(k:∀vs n,f vs=R8->P (cE vs n)):D8 f o=R8->P o:=by
 induction o using YB with|mk c d x s=> ?_
 refine ae λh h4=>ae (λh h3=>ae (λh1 h2=> ?_) h) h;refine zU (D:=λx=>P ⟨c,d,x,s⟩) (λvs n h4=> ?_) h4;have e1:=eq_of_beq h1;have e2:=Option.isNone_iff_eq_none.mp h2;have e3:=Array.isEmpty_iff.mp h3;dsimp only at e1 e2 e3;exact e1▸e2▸e3▸k vs.toList n h4
def Bt(K:Wz)(d:Sf):Se->AV->Bool:=VA (λu0 u1=>Sj) (λu0 ih v x=>
 x.cM (x.bR (x.bt (x.onStr (x.cQ Sj λl=>xf (yH K<|D8 λvs=>all2 ih vs l) v) λl=>vStr (λs=>decide (s.cps.toList=l)) v) λj=>vInt (λi=>decide (i=j)) v) λb=>vBool (λa=>a==b) v) (Ba v)) d
def IB(K:Wz)(fd:Wa):Bool:=xf (yH K λo=>zR (λvs=>eD (vStr λq=>decide (q=fd.qualname)) (vs[1]? :Sh Se)) o.data) fd.code
def LF(K:Wz)(fd:Wa)(d:iO):Bool:=(Ba fd.defaults&&d.dfl.isEmpty)||xf (yH K λo=>Ew (λvs=>all2 (Bt K 3) vs.toList d.dfl) o.data) fd.defaults
def G0(f:R5 Arg->Sq)(p:WI):Bool:=aJ (cM (aJ (aJ (cM (f p.args) p.kwarg) p.kw_defaults) p.kwonlyargs) p.vararg) p.posonlyargs
theorem E0{f:R5 Arg->Sq}{P:WI->Prop}(k:∀fS dd,f fS=R8->P ⟨[],fS,Sd,[],[],Sd,dd⟩){a:WI}(h:G0 f a=R8):P a:=by
 cases a with|mk po ar va ko kd kw de=>
 exact ao (P:=λpo=>P ⟨po,ar,va,ko,kd,kw,de⟩) (λh=>fF (P:=λva=>P ⟨[],ar,va,ko,kd,kw,de⟩) (λh=>ao (P:=λko=>P ⟨[],ar,Sd,ko,kd,kw,de⟩) (λh=>ao (P:=λkd=>P ⟨[],ar,Sd,[],kd,kw,de⟩) (λh=>fF (P:=λkw=>P ⟨[],ar,Sd,[],[],kw,de⟩) (k ar de) h) h) h) h) h
def NW(tb:gh)(K:Wz)(tc:SJ)(fd:Wa)(d:iO):Bool:=G0 (λfS=>oE (λu0=>
  fd.closure.isEmpty&&(decide (fd.globals=TA)&&(decide (fd.builtins=Xw)&&(nM fd.scope&&(fd.scope.names.all (λp=>decide (p.2=.local)||decide (p.2=.cell)||decide (p.2=.globalImplicit))&&
  (decide (fS.map (·.arg)=(fd.scope.names.map (·.1)).take d.ar)&&((fd.scope.names.take d.ar).all (λp=>decide (p.2=.local)||decide (p.2=.cell))&&((bJ fd.scope.names).all (λp=> !(decide (p.1=("put_in":SS))&&decide (p.2=VK.c))||(fd.code==.ref tc))&&
  (decide (d.fH=fd.scope.names.length)&&(decide (d.ar<=d.fH)&&(decide (d.dfl.length<=d.ar)&&(IB K fd&&LF K fd d)))))))))))) fd.body) fd.params
def qN(tb:gh)(K:Wz)(tc:SJ)(a:SJ)(d:iO):Bool:=yH K (λo=>tU (λfd=>NW tb K tc fd d) o.data) a
def Ho(tb:gh)(K:Wz)(k:Sf)(a:SJ)(d:iO):Bool:=yH K (λo=>tU (λfd=>oE (λb=>cI tb k (bJ fd.scope.names) d.body b) fd.body) o.data) a
section
variable{P:PD}
theorem um(X:T.K.In T.base)(ht:T.K.lookup T.tp=Sd)(h:T.K.lookup a=KX o):T.base.get? a=KX o/\a≠T.tp:=
 ⟨X a o h,λe=>au<|ht.symm.trans (e▸h)⟩
theorem qd(X:T.K.In T.base)(ht:T.K.lookup T.tp=Sd){f:Xl->Sq}(k:∀o,T.K.lookup a=KX o->T.base.get? a=KX o->a≠T.tp->f o=R8->Z)(h:yH T.K f a=R8):Z:=
 da (P:=λq=>T.K.lookup a=q->Z) (λo h e=>k o e (um X ht e).1 (um X ht e).2 h) h rfl
theorem zK{f:Se->AV->Sq}(hf:∀v x,f v x=R8->RV S W v x){vs:R5 Se}:∀{l:R5 AV},all2 f vs l=R8->aA S W vs l:=by
 induction vs with
 |nil=>exact fun{l} h=>ao (λu0=> .nil) h
 |cons v vs ih=>exact fun{l} h=>az (λy ys=>ae λa b=> .cons (hf v y a)<|ih b) h
theorem yz(X:T.K.In T.base)(ht:T.K.lookup T.tp=Sd)(ok:dU S T W){d:Sf}:∀{v:Se} {x:AV},Bt T.K d v x=R8->RV S W v x:=by
 induction d with
 |zero=>exact bc
 |succ d ih=>
  intro v x h;refine AV.kP (xI (P:=λv=>RV S W v .none) .none) h λh=>AV.gM (λb=>Gb (P:=λv=>RV S W v<|.bool b) λa h=>eq_of_beq h▸ .bool) h λh=>
   AV.dw (λj=>JY (P:=λv=>RV S W v<|.int j) λi t h=>Sa h▸ .int) h λh=>AV.i9 (λj=>zI (P:=λv=>RV S W v<|.str j) λi t h=>Sa h▸ .str) h λh=>
   AV.dG (P:=λx=>RV S W v x) (λl=>rz (P:=λv=>RV S W v<|.tup l) λa=>qd X ht λo O b1 b2 h=>DG (P:=λo=>T.base.get? a=KX o->RV S W (.ref a) (.tup l)) (λvs n h b1=> .tup (ok.base _ _ b1 b2).1 (ok.base _ _ b1 b2).2<|zK (λu0 u1=>ih) h) h b1) h bc
theorem qJ(X:T.K.In T.base)(ht:T.K.lookup T.tp=Sd){d:iO}(hv:S.bK f=.ref a)(kont:∀F:mV S T tb f d,T.K.lookup a=KX F.o->Z):qN tb T.K S.tc a d=R8->Z:=
 qd X ht λo ho b1 b2 h=>Gk (D:=λx=>o.data=x->Z) (λfd h hd=>E0 (P:=λp=>fd.params=p->Z) (λfS dd h e1=>C7 (D:=λb=>fd.body=b->Z) (λbody h e2=>by
  refine ae (λq1 h=>ae (λq2 h=>ae (λq3 h=>ae (λq4 h=>ae (λq5 h=>ae (λq6 h=>ae (λq7 h=>ae (λq8 h=>ae (λq9 h=>ae (λq10 h=>ae (λq11 h=>ae (λq12 q13=> ?_) h) h) h) h) h) h) h) h) h) h) h) h;have cd:=
   rz (P:=λv=>fd.code=v->∃c o vs t,fd.code=.ref c/\c≠T.tp/\T.base.get? c=KX o/\o.data=.fields vs/\vs[1]? =KX (.str fd.qualname t)) (λc h e=>qd X ht (λo O d1 d2 h=>AF (D:=λx=>o.data=x->∃c o vs t,fd.code=.ref c/\c≠T.tp/\T.base.get? c=KX o/\o.data=.fields vs/\vs[1]? =KX (.str fd.qualname t)) (λvs h ed=>
    da (P:=λu=>(vs[1]?)=u->∃c o vs t,fd.code=.ref c/\c≠T.tp/\T.base.get? c=KX o/\o.data=.fields vs/\vs[1]? =KX (.str fd.qualname t)) (λu h eu=>zI (P:=λu=>(vs[1]?)=KX u->∃c o vs t,fd.code=.ref c/\c≠T.tp/\T.base.get? c=KX o/\o.data=.fields vs/\vs[1]? =KX (.str fd.qualname t)) (λq t h eu=>⟨c,o,vs,t,e,d2,d1,ed,Sa h▸eu⟩) h eu) h rfl) h rfl) h) q12 rfl;refine Exists.elim (?_:∃iN,((fd.defaults=.none/\iN=[])\/∃t o m,fd.defaults=.ref t/\t≠T.tp/\T.base.get? t=KX o/\o.data=.seq iN.toArray m)/\∀W,dU S T W->aA S W iN d.dfl) λiN dv=> ?_
  ·exact(Bool.or_eq_true_iff.mp q13).elim (λq=>ae (λq1 q2=>⟨[],.inl ⟨xI (P:=λv=>v=.none) rfl q1,rfl⟩,λW O=>(R6 (aA S W [])<|List.isEmpty_iff.mp q2).mpr .nil⟩) q) λq=>
    rz (P:=λv=>fd.defaults=v->∃iN,((fd.defaults=.none/\iN=[])\/∃t o m,fd.defaults=.ref t/\t≠T.tp/\T.base.get? t=KX o/\o.data=.seq iN.toArray m)/\∀W,dU S T W->aA S W iN d.dfl) (λt h e=>qd X ht (λo O d1 d2 h=>zU (D:=λx=>o.data=x->∃iN,((fd.defaults=.none/\iN=[])\/∃t o m,fd.defaults=.ref t/\t≠T.tp/\T.base.get? t=KX o/\o.data=.seq iN.toArray m)/\∀W,dU S T W->aA S W iN d.dfl) (λvs m h ed=>⟨vs.toList,.inr ⟨t,o,m,e,d2,d1,ed⟩,λW ok=>zK (λu0 u1=>yz X ht ok) h⟩) h rfl) h) q rfl
  ·exact kont {
    a:=a
    o:=o
    fd:=fd
    fS:=fS
    dd:=dd
    body:=body
    iN:=iN
    bK:=hv
    ho:=b1
    ne:=b2
    hd:=hd
    params:=e1
    wg:=e2
    Pd:=List.isEmpty_iff.mp q1
    gl:=Sa q2
    bl:=Sa q3
    sc:=q4
    kinds:=q5
    names:=Sa q6
    pk:=q7
    put:=λi hi=>(Bool.or_eq_true_iff.mp<|List.all_eq_true.mp q8 _<|SM hi).elim (λe=>bc<|(eO e).symm.trans (Bool.and_eq_true_iff.mpr ⟨Sz rfl,Sz rfl⟩)) eq_of_beq
    fH:=Sa q9
    ar:=Sa q10
    LJ:=Sa q11
    cd:=cd
    dv:=dv.1
    dr:=dv.2} ho) h rfl) h rfl) h rfl
theorem F5(X:T.K.In T.base)(ht:T.K.lookup T.tp=Sd){d:iO}(hv:S.bK f=.ref a)(h:qN tb T.K S.tc a d=R8)(h2:Ho tb T.K k a d=R8):sk S T tb f d:=
 qJ X ht hv (λF e=>⟨F,k,by have h3:=(R6 (λo=>eD (λo:Xl=>tU (λfd=>oE (λb=>cI tb k (bJ fd.scope.names) d.body b) fd.body) o.data) o=R8) e).mp h2;have h4:=(R6 (λo=>tU (λfd=>oE (λb=>cI tb k (bJ fd.scope.names) d.body b) fd.body) o=R8) F.hd).mp h3;exact(R6 (λo=>oE (λb=>cI tb k (bJ F.fd.scope.names) d.body b) o=R8) F.wg).mp h4⟩) h
def Dn(K:Wz)(P:PD)(tb:gh)(bK:Sf->Se)(cls:Sf->SJ):Bool:=P.cls.zipIdx.all λp=>
 XU K (cls p.2) ""&&(VX K (cls p.2)&&((TB K (.ref<|cls p.2) "__setattr__"==KX (KX<|.builtin "object.__setattr__"))&&(YZ K (cls p.2)&&
 (makesIn K (cls p.2)&&((TB K (.ref<|cls p.2) "__init__"==KX (KX<|bK p.1.init))&&(isFn K (bK p.1.init)&&
 tb.nm.zipIdx.all λq=>Sl (fY q.2 p.1.meths) (TB K (.ref<|cls p.2) q.1==KX Sd)
  λf=>(TB K (.ref<|cls p.2) q.1==KX (KX<|bK f))&&(isFn K (bK f)&&((Xj K (bK f) "__get__"==KX (KX<|.builtin "function.__get__"))&&((Z9 K (bK f)==KX Sj)&& !copiedNames.contains q.1)))))))))
structure PS(K:Wz)(tb:gh)(bK:Sf->Se)(C:SJ)(d:rO):Prop where
 ga:XU K C ""=R8/\VX K C=R8
 sa:TB K (.ref C) "__setattr__"=KX (KX<|.builtin "object.__setattr__")/\YZ K C=R8
 QH:makesIn K C=R8/\TB K (.ref C) "__init__"=KX (KX<|bK d.init)/\isFn K (bK d.init)=R8
 at_:∀(x:Sf) (y:SS),tb.nm[x]? =KX y->match fY x d.meths with
   |some f=>TB K (.ref C) y=KX (KX<|bK f)/\isFn K (bK f)=R8/\Xj K (bK f) "__get__"=KX (KX<|.builtin "function.__get__")/\Z9 K (bK f)=KX Sj/\copiedNames.contains y=Sj
   |none=>TB K (.ref C) y=KX Sd
theorem mG{K:Wz}{bK:Sf->Se}{cls:Sf->SJ}(h:Dn K P tb bK cls=R8){d:rO}(hc:P.cls[c]? =KX d):PS K tb bK (cls c) d:=
 ae (λh1 h=>ae (λh2 h=>ae (λh3 h=>ae (λh4 h=>ae (λh5 h=>ae (λh6 h=>ae (λh7 h8=>⟨⟨h1,h2⟩,⟨eq_of_beq h3,h4⟩,⟨h5,eq_of_beq h6,h7⟩,λx y hy=>
  Sl (motive:=λo=>Sl o (TB K (.ref<|cls c) y==KX Sd) (λf=>(TB K (.ref<|cls c) y==KX (KX<|bK f))&&(isFn K (bK f)&&((Xj K (bK f) "__get__"==KX (KX<|.builtin "function.__get__"))&&((Z9 K (bK f)==KX Sj)&& !copiedNames.contains y))))=R8->match o with
   |some f=>TB K (.ref<|cls c) y=KX (KX<|bK f)/\isFn K (bK f)=R8/\Xj K (bK f) "__get__"=KX (KX<|.builtin "function.__get__")/\Z9 K (bK f)=KX Sj/\copiedNames.contains y=Sj
   |none=>TB K (.ref<|cls c) y=KX Sd) (fY x d.meths) (λh=>eq_of_beq h) (λf h=>ae (λi1 h=>ae (λi2 h=>ae (λi3 h=>ae (λi4 i5=>⟨eq_of_beq i1,i2,eq_of_beq i3,eq_of_beq i4,eO i5⟩) h) h) h) h) (List.all_eq_true.mp h8 (y,x)<|List.mk_mem_zipIdx_iff_getElem?.mpr hy)⟩) h) h) h) h) h) h) (List.all_eq_true.mp h (d,c)<|List.mk_mem_zipIdx_iff_getElem?.mpr hc)
@[elab_as_elim] theorem AV.Gp {P:AV->Prop} {d y f:β} (k:f=y->P .lj):∀{a:AV},a.Bk d f=y->(d=y->P a)->P a:=by intro a;induction a using AV.casesOn<;>first|exact @eL (d=y) _|exact λh O=>k h
def L9(K:Wz)(bK:Sf->Se)(cls:Sf->SJ)(v:Se)(x:AV):Bool:=x.wM (x.A2 (x.Bk (Bt K 5 v x)<|xf (yH K λu0=>R8) v) λc=>v==.ref (cls c)) λf=>v==bK f
def DJ(K:Wz)(P:PD)(tb:gh)(bK:Sf->Se)(cls:Sf->SJ):Bool:=P.bW.zipIdx.all λp=>Sl (tb.gn[p.2]?) R8 λy=>eD (eD λv=>L9 K bK cls v p.1)<|Ym K TA y
theorem Co(X:T.K.In T.base)(ht:T.K.lookup T.tp=Sd)(G:T.base.Ns TA T.mg)(h:DJ T.K P tb S.bK S.cls=R8)(ok:dU S T W){g:Sf}{x:AV}{y:SS}(hg:P.bW[g]? =KX x)(hy:tb.gn[g]? =KX y):∃v,T.mg y=KX v/\RV S W v x:=
 da (P:=λo=>Ym T.K TA y=o->∃v,T.mg y=KX v/\RV S W v x) (λo h e=>da (P:=λo=>Ym T.K TA y=KX o->∃v,T.mg y=KX v/\RV S W v x) (λv h hv=>⟨v,mg_of X G hv,
  AV.qZ (P:=λx=>RV S W v x) (λf (h:(v==S.bK f)=R8)=>eq_of_beq h▸ .fn) h λh=>AV.wW (P:=λx=>RV S W v x) (λf (h:(v==.ref (S.cls f))=R8)=>eq_of_beq h▸ .cls) h λh=>
   AV.Gp (P:=λx=>RV S W v x) (rz (P:=λv=>RV S W v .lj) λa=>qd X ht λo O b1 b2 u1=> .lj (ok.base _ _ b1 b2).1 (ok.base _ _ b1 b2).2) h (yz X ht ok)⟩) h e)
  ((R6 (λo=>Sl o R8 (λy=>eD (eD λv=>L9 T.K S.bK S.cls v x)<|Ym T.K TA y)=R8) hy).mp<|List.all_eq_true.mp h (x,g)<|List.mk_mem_zipIdx_iff_getElem?.mpr hg) rfl
end
end
end
noncomputable section
open PySem PySem.W PySem.Spec PySem.Calls PyProof.Rows
section
noncomputable def G3:R5 Addr:=[70,77,82,87,94,101,108,115,120,127,142,149,163,170,197,202,209,216,223,230,237,242,256,263,270,277,284,291,298,305,319,326,333,340,347,354,361,382,396,410,417,422,429,436,443,450,457,478,499,508,513,518,525,532,539,546,553,560,574,590,612,634,655,662,669,678,686,691,698,705,710,717,722,58,36,177]
def Fb(f:Sf):Value:=.ref<|G3.getD f 70
noncomputable def PK:R5 Addr:=[188,385,481,563,593,615,644]
def Bd(c:Sf):Addr:=PK.getD c 188
def iL:gh:=⟨NG.map ZF,N5.map ZF⟩
def An(i:Sf):Str:=Sl iL.nm[i]? ⟨(S9 (i+40) 0).toArray⟩ id
noncomputable def O7:Nat:=73
noncomputable def Pj:Nat:=74
noncomputable def OZ:iO:=⟨5,[.int 0,.tup []],7,[]⟩
noncomputable def Po:iO:=⟨3,[.int 0],4,[]⟩
noncomputable def Py(i:Sf):Pos:=([⟨14,8,14,17⟩,⟨14,8,14,26⟩,⟨14,27,14,31⟩,⟨14,33,14,37⟩,⟨14,40,14,44⟩,⟨14,33,14,44⟩,⟨14,47,14,54⟩,⟨14,33,14,54⟩,⟨14,56,14,60⟩,⟨14,8,14,61⟩,⟨14,8,14,61⟩,
 ⟨15,8,15,12⟩,⟨15,8,15,17⟩,⟨15,20,15,24⟩,⟨15,8,15,24⟩,⟨16,8,16,12⟩,⟨16,8,16,17⟩,⟨16,20,16,25⟩,⟨16,26,16,30⟩,⟨16,20,16,31⟩,⟨16,8,16,31⟩]:R5 Vu).getD i ⟨0,0,0,0⟩
noncomputable def Pu(i:Sf):Pos:=([⟨8,8,8,17⟩,⟨8,8,8,26⟩,⟨8,27,8,31⟩,⟨8,33,8,40⟩,⟨8,8,8,41⟩,⟨8,8,8,41⟩,⟨9,8,9,12⟩,⟨9,8,9,20⟩,⟨9,23,9,30⟩,⟨9,8,9,30⟩,⟨10,8,10,12⟩,⟨10,8,10,17⟩,⟨10,20,10,24⟩,⟨10,8,10,24⟩]:R5 Vu).getD i ⟨0,0,0,0⟩
noncomputable def fdOf(d:Data):Sh FuncData:=match d with|.func fd=>KX fd|_=>Sd
noncomputable def Gx(b:aaX):Sh (R5 T1):=match b with|.stmts b=>KX b|_=>Sd
def Gn(K:Wz)(a:SJ):Sh FuncData:=mP (K.lookup a) λo=>fdOf o.data
def yf(K:Wz)(a:SJ):Sh (R5 T1):=mP (Gn K a) λfd=>Gx fd.body
def J0(K:Wz)(a:SJ):R5 (SS×Tq):=Sl (Gn K a) [] λfd=>fd.scope.names
noncomputable def clsAt(K:Wz)(a:SJ):Sh Value:=(K.lookup a).map (·.cls)
def kZ(K:Wz)(a:SJ):R5 (SS×VK):=bJ<|J0 K a
structure KF(K:Wz):Prop where
 tp:K.lookup 117=Sd
 cls:Dn K P iL Fb Bd=R8
 bW:DJ K P iL Fb Bd=R8
 QV:(yt.zipIdx.all λq=>qN iL K 119 (G3.getD q.2 70) q.1)=R8
 fn:(yt.zipIdx.all λq=>Ho iL K 100 (G3.getD q.2 70) q.1)=R8
 keep:(G3.all λa=>ZA K (.ref a)&&fnIn K a)=R8
 GC:(PK.all λa=>ZA K<|.ref a)=R8
 x1:ZA K (.ref 61)=R8
 x2:Ym K TA "range"=KX Sd/\Ym K TA "enumerate"=KX Sd/\Ym K TA "zip"=KX Sd/\Ym K TA "dict"=KX Sd
 x3:(TB K (.ref 61) "__getattribute__"=KX (KX<|.builtin "BaseException.__getattribute__")/\TB K (.ref 61) "__getattr__"=KX Sd/\mroIn K 61 (.type "BaseException")=KX R8)/\VX K 61=R8
 x4:TB K (.ref 61) "message"=KX Sd/\TB K (.ref 61) "spot"=KX Sd/\TB K (.ref 61) "kind"=KX Sd/\TB K (.ref 61) "rows"=KX Sd
 x5:TB K (.ref 61) "__setattr__"=KX (KX<|.builtin "object.__setattr__")
 x6:∀b,Ym K TA (vE b)=KX Sd
 b1:qN iL K 119 58 OZ=R8
 b2:qN iL K 119 36 Po=R8
 b3:yf K 58=KX (Ha Py 0)
 b4:yf K 36=KX (GP Pu)
 b5:(cA (kZ K 58) 0 "self"&&(cA (kZ K 58) 1 "kind"&&(cA (kZ K 58) 2 "message"&&(cA (kZ K 58) 3 "spot"&&(cA (kZ K 58) 4 "rows"&&(eP (kZ K 58) "LendError"&&eP (kZ K 58) "tuple"))))))=R8
 b6:(cA (kZ K 36) 0 "self"&&(cA (kZ K 36) 1 "message"&&(cA (kZ K 36) 2 "spot"&&eP (kZ K 36) "Exception")))=R8
 b7:clsAt K 58=KX (.type "function")
 b8:K.lookup 61=KX (UH "BorrowFault" "BorrowFault" 61 60 [.ref 39] [.ref 39,.type "Exception",.type "BaseException",.type "object"] R8 [] [] Sj Sd Sd (KX<|.ref 43) Sd (KX<|.str "BorrowFault" 228) (KX<|.str "BorrowFault" 236) (KX<|.bool R8) "Exception.__new__")
 b9:nsOkIn K 60=R8
 Rp:Ym K 60 "__init__"=KX (KX<|.ref 58)
 Q1:Ym K TA "LendError"=KX (KX<|.ref 39)
 QP:readsIn K 39 (.type "type")=R8
 QU:Xj K (.ref 39) "__getattribute__"=KX (KX<|.builtin "type.__getattribute__")
 Rg:aaf K (.ref 39) (.type "type") "__init__"=KX (.val<|.ref 36)
 Ro:Ym K TA "Exception"=KX Sd
 QG:aaf K (.type "Exception") (.type "type") "__init__"=KX (.val<|.builtin "Exception.__init__")
 Q4:TB K (.type "type") "__getattribute__"=KX (KX<|.builtin "type.__getattribute__")
 QR:Ym K TA "BorrowFault"=KX (KX<|.ref 61)
 Ra:Ym K TA "law"=KX (KX<|.ref 722)
end
section
def Sx(prog:Wm)(w:Yd):bf:={prog:=prog,w:=w,bK:=Fb,cls:=Bd,nm:=An,xc:=61,tc:=119}
noncomputable def Tx(K:Wz)(h:Tu)(mg mb:SS->Sh Se):cU:={base:=h,K:=K,mg:=mg,mb:=mb,tp:=117,tc:=119}
theorem H0{K:Wz}{N:SJ}{n:SS}{v:Se}:Ym K N n=KX (KX v)->∃c d es k sl e,K.lookup N=KX ⟨c,d,.dict es k,sl⟩/\es.toList.find? (·.key.isStr n)=KX e/\e.val=v:=by
 unfold Ym;generalize K.lookup N=o
 induction o using Sl with
 |none=>exact au
 |some o=>
  induction o using YB with|mk c d x sl=>
  induction x using Wo<;>first|exact au|skip
  dsimp only;generalize q:List.find? _ _=r
  induction r using Sl with
  |none=>
   refine λe=> ?_
   by_cases c:entries.toList.any (λx=>x.refKey)=R8
   ·exact au<|(Sv c).symm.trans e
   ·exact au<|R9<|(SI c).symm.trans e
  |some e=>exact λh=>⟨_,_,_,_,_,e,rfl,q,R9<|R9 h⟩
theorem Nw{K:Wz}{h:Tu}{N:SJ}{mg:SS->Sh Se}{n:SS}{v:Se}(X:K.In h)(G:h.Ns N mg)(e:Ym K N n=KX (KX v)):mg n=KX v:=
 (H0 e).elim λc q=>q.elim λd q=>q.elim λes q=>q.elim λk q=>q.elim λsl q=>q.elim λen q=>G.elim λo g=>g.elim λes' g=>g.elim λep g=>
  have eo:=R9<|(X _ _ q.1).symm.trans g.1;have ee:=(Xh<|(R6 X9 eo).trans g.2.1).1
  (g.2.2.2 n).symm.trans ((R6 (λo:Sh Sk=>o.map<|λx:Sk=>x.val)<|Array.find?_toList.symm.trans ((R6 (λes:Td Sk=>es.toList.find?<|λx:Sk=>x.key.isStr n) ee).symm.trans q.2.1)).trans<|R6 KX q.2.2)
theorem getD_mem{l:R5 Sf}{i d:Sf}(h:d∈l):l.getD i d∈l:=by rw[Ur];exact Sl (motive:=λo=>l[i]? =o->o.getD d∈l) l[i]? (λu0=>h) (λu0 q=>SM q) rfl
theorem Ge:iL.nm.Nodup:=by decide+kernel
theorem EO:∀x∈iL.nm,x.cps.size<40:=by decide+kernel
theorem wd{i:Sf}{x:SS}(h:iL.nm[i]? =KX x):An i=x:=R6 (λo=>Sl (motive:=λu0=>SS) o ⟨(S9 (i+40) 0).toArray⟩ id) h
theorem wk{i:Sf}(h:iL.nm[i]? =Sd):(An i).cps.size=i+40:=(R6 (λo=>(Sl (motive:=λu0=>SS) o ⟨(S9 (i+40) 0).toArray⟩ id).cps.size) h).trans ZI
theorem Dz{i:Sf}{x:SS}(h:iL.nm[i]? =KX x):(An i).cps.size<40:=(wd h).symm▸EO _ (SM h)
theorem Jk:∀i j,An i=An j->i=j:=λi j h=>
 have e:=R6 (λs=>s.cps.size) h
 Sl (motive:=λo=>iL.nm[i]? =o->i=j) iL.nm[i]?
  (λhi=>Sl (motive:=λo=>iL.nm[j]? =o->i=j) iL.nm[j]? (λhj=>Nat.add_right_cancel<|(wk hi).symm.trans (e.trans<|wk hj))
   (λy hj=>TL (e.symm.trans (wk hi)▸Dz hj)<|Nat.not_lt.mpr<|Ub 40 i) rfl)
  (λx hi=>Sl (motive:=λo=>iL.nm[j]? =o->i=j) iL.nm[j]? (λhj=>TL (e.trans (wk hj)▸Dz hi)<|Nat.not_lt.mpr<|Ub 40 j)
   (λy hj=>(X6 (List.getElem?_eq_some_iff.mp hi).1 Ge).mp<|hi.trans<|((wd hi).symm.trans (h.trans<|wd hj)▸hj).symm) rfl) rfl
theorem PB:∀x:SS,x="range"\/x="enumerate"\/x="zip"\/x="dict"->(x≠"__name__")/\aaj x=KX (.type x.toString):=by
 intro x hx
 rcases hx with rfl|rfl|rfl|rfl
 ·exact ⟨by decide+kernel,by kernel_rfl⟩
 ·exact ⟨by decide+kernel,by kernel_rfl⟩
 ·exact ⟨by decide+kernel,by kernel_rfl⟩
 ·exact ⟨by decide+kernel,by kernel_rfl⟩
theorem O1(b:Bi):vE b≠"__name__"/\aaj (vE b)=KX (vm b):=by cases b<;>exact ⟨by decide+kernel,by kernel_rfl⟩
theorem QW:aaj "Exception"=KX (.type "Exception"):=by kernel_rfl
section
variable{prog p:Wm}{loose:R5 SS}{mean:ExcName->Sh Se}{mg mb:SS->Sh Se}{h:Tu}{w:Yd}{K:Wz}
theorem PY(F:KF K)(t:Top p loose mean mg mb h)(X:K.In h)(hT:TabsAt [(119,117)] h):bU (Sx prog w) (Tx K h mg mb) P iL:=
 have hT':=hT (119,117) (.head _)
 {vP:=λf=>⟨_,rfl⟩
  inj:=Jk
  iq:=λa o e=>um X F.tp e
  Eg:=λc d hc=>(mG F.cls hc).ga
  cat:=λc d x y hc hy=>(mG F.cls hc).at_ x y hy
  cst:=λc d hc=>
   have z:=mG F.cls hc
   ⟨z.sa.1,z.sa.2,λx y hy hn=>by
    have:=z.at_ x y hy;rw[hn] at this;show aaa K (Bd c) y=KX Sd;unfold aaa;rw[this]
    rfl⟩
  O3:=λc d hc=>(mG F.cls hc).QH
  xw:=λf=>ae (λa b=>⟨a,λx e=>Vh e▸b⟩) (List.all_eq_true.mp F.keep _<|getD_mem (by decide))
  GC:=λc=>List.all_eq_true.mp F.GC _ (getD_mem (by decide))
  OW:=F.x1
  bx:=λx hx=>⟨hx.elim (λe=>e▸Xu X t.g F.x2.1) λhx=>hx.elim (λe=>e▸Xu X t.g F.x2.2.1) λhx=>hx.elim (λe=>e▸Xu X t.g F.x2.2.2.1) λe=>e▸Xu X t.g F.x2.2.2.2,(t.builtins _ (PB x hx).1).trans (PB x hx).2⟩
  Pz:=⟨F.x3.1,F.x3.2,F.x4.2.2.1,rfl⟩
  gl:=t.g
  gl':=(by decide:TA≠117)
  bl:=t.b
  bl':=(by decide:Xw≠117)
  lim:=t.nolimit
  lim':=(by decide:cStatics≠117)
  bW:=λW ok g x y hg hy=>Co (T:=Tx K h mg mb) (S:=Sx prog w) X F.tp t.g F.bW ok hg hy
  bi:=λb=>⟨Xu X t.g<|F.x6 b,(t.builtins _ (O1 b).1).trans (O1 b).2⟩
  nm:=λi x hx=>wd hx
  zY:=rfl
  Cr:=hT'.1
  bmod:=by
   obtain ⟨bm,ob,h1,h2,h3,h4,h5,h6⟩:=t.bmain;refine ⟨bm,ob,h1,h2,?_,?_,h3,h4,h5,h6⟩
   ·rintro rfl
    obtain ⟨o,es,ep,e1,e2,_⟩:=t.g;rw[h3] at e1
    cases e1
    rw[h6] at e2
    cases e2
   ·rintro rfl
    have h7:=hT'.2;have h3:h.get? 117=KX ob:=h3;rw[h3] at h7;obtain rfl:=R9 h7
    cases h4}
theorem PT(F:KF K)(X:K.In h):∀f d,P.fns[f]? =KX d->sk (Sx prog w) (Tx K h mg mb) iL f d:=λf d hf=>
 F5 X F.tp rfl (List.all_eq_true.mp F.QV (d,f)<|List.mk_mem_zipIdx_iff_getElem?.mpr hf) (List.all_eq_true.mp F.fn (d,f)<|List.mk_mem_zipIdx_iff_getElem?.mpr hf)
theorem GG{S:bf}{T:cU}{tb:gh}{f:Sf}{d:iO}{a:SJ}(F:mV S T tb f d)(e:T.K.lookup a=KX F.o):Gn T.K a=KX F.fd:=(R6 (λo=>mP o λo:Xl=>fdOf o.data) e).trans<|R6 fdOf F.hd
theorem zS{S:bf}{T:cU}{tb:gh}{f:Sf}{d:iO}{a:SJ}{b:R5 T1}(F:mV S T tb f d)(e:T.K.lookup a=KX F.o)(h:yf T.K a=KX b):F.body=b:=
 R9 (((R6 Gx F.wg).symm.trans (R6 (λo=>mP o λfd:Wa=>Gx fd.body)<|GG F e).symm).trans h)
theorem Hd{S:bf}{T:cU}{tb:gh}{f:Sf}{d:iO}{a:SJ}(F:mV S T tb f d)(e:T.K.lookup a=KX F.o):kZ T.K a=bJ F.fd.scope.names:=R6 (λo=>bJ<|Sl (motive:=λu0=>R5<|SS×Tq) o [] λfd:Wa=>fd.scope.names)<|GG F e
theorem Nh:jG [.ref 39,.type "Exception",.type "BaseException",.type "object"] where
 hasB:=by decide
 K9:=by decide
 noAttr:=by decide
 noName:=by decide
 pass:=λu0 u1=>rfl
theorem PX(F:KF K)(t:Top p loose mean mg mb h)(X:K.In h){Z:Prop}(kont:vr (Sx prog w) (Tx K h mg mb) iL->Z):Z:=by
 refine qJ (S:=Sx prog w) (T:=Tx K h mg mb) X F.tp (f:=O7) rfl (λFB e1=> ?_) F.b1;refine qJ (S:=Sx prog w) (T:=Tx K h mg mb) X F.tp (f:=Pj) rfl (λG i1=> ?_) F.b2;refine ae (λa1 z=>ae (λa2 z=>ae (λa3 z=>ae (λa4 z=>ae (λa5 z=>ae (λa6 a7=> ?_) z) z) z) z) z)<|Hd FB e1▸F.b5;refine ae (λb1 z=>ae (λb2 z=>ae (λb3 b4=> ?_) z) z)<|Hd G i1▸F.b6;exact kont {
  fB:=O7
  fL:=Pj
  dB:=OZ
  dL:=Po
  FB:=FB
  FL:=G
  OJ:=rfl
  PH:=rfl
  pB:=Py
  cB:=0
  bB:=zS FB e1 F.b3
  lB:=by decide
  pL:=Pu
  bL:=zS G i1 F.b4
  lL:=by decide
  vB:=⟨a1,a2,a3,a4,a5⟩
  nB:=⟨a6,a7⟩
  vL:=⟨b1,b2,b3⟩
  nL:=b4
  nm:="BorrowFault"
  q:="BorrowFault"
  N:=60
  bs:=_
  bm:=_
  sn:=_
  sub:=_
  ab:=_
  col:=_
  dd:=_
  k0:=_
  k1:=_
  k2:=_
  k3:=_
  k5:=_
  hC:=X _ _ F.b8
  G7:=(by decide:61≠117)
  V:=Nh
  mN:=h.nsMap 60
  hN:=.of_isNs (isNs_of_in X F.b9)
  neN:=(by decide:60≠117)
  hi:=Nw X (.of_isNs<|isNs_of_in X F.b9) F.Rp
  fc:=R9 ((R6 (Uo<|λo:Xl=>o.cls) e1).symm.trans F.b7)
  at_:=F.x4
  sa:=F.x5
  L:=39
  mc:=.type "type"
  Pa:=mg_of X t.g F.Q1
  OE:=F.QP
  PI:=F.QU
  OU:=F.Rg
  OI:=Xu X t.g F.Ro
  Pw:=(t.builtins _ (by decide+kernel)).trans QW
  O9:=F.QG
  OX:=F.Q4}
end
end
noncomputable def W0(h:Tu):Wd:={h:=h,ah:=λa=>if a=117 then KX .tab else Sd,ρ:=λu0=>0,N:=0}
theorem yp{h:Tu}{a:SJ}(e:a≠117):(W0 h).ah a=none:=SI e
theorem JD{S:bf}{W:Wd}{P:Params}{h:Tu}{xs:R5 SK}:∀{vs:R5 Se},WellAll P h vs (xs.map λi=>ofPy<|.int i)->aA S W vs (xs.map .int):=by
 induction xs with
 |nil=>exact λh=>by cases h;exact .nil
 |cons x xs ih=>
  intro vs h
  cases h with
  |cons a b=>
   cases a
   exact .cons .int<|ih b
theorem arith{k:Sf}(hk:k<=340):1+300+2*(k+2)+4<1000/\4+16*(k+2)+300<9900:=
 ⟨Sb (S6 (S2 (TH 2<|S6 hk 2) _) 4) (by decide),Sb (S6 (S2 (TH 16<|S6 hk 2) 4) 300) (by decide)⟩
theorem Rj{prog p:Wm}{loose:R5 SS}{mean:ExcName->Sh Se}{mg mb:SS->Sh Se}{w:Yd}{s:Sn}{fa l:SJ}{R:ZG->Sn->Prop}{K:Wz}(t:Top p loose mean mg mb s.heap)(X:K.In s.heap)(F:KF K)(hT:TabsAt [(119,117)] s.heap)(hmg:mg "law"=KX (.ref fa))
  {xs:R5 SK} {vs:R5 Se} (hl:s.heap.get? l=KX (aE vs 0)) (hv:WellAll w.params s.heap vs (xs.map λi=>ofPy<|.int i)) {k:Sf} {H':Hp} (hk:k<=340) (hev:(ev P k).f 72 [.lst (xs.map .int)] []=KX (.bool R8,H'))
  (G:∀s',(∀b o,(ghostOf s.heap [(119,117)]).get? b=KX o->s'.heap.get? b=KX o)->s'.os=s.os->s'.gens=s.gens->GrownAll [(119,117)] s'.heap->R (.ok<|.ret<|.bool R8) s'):
  Um (Tj prog w) callerA (.call (.ref fa) ⟨[.ref l],[]⟩) R s:=by
 have e:=Vh<|R9<|hmg.symm.trans (mg_of X t.g F.Ra);subst e;refine PX (prog:=prog) (w:=w) F t X λx=> ?_;have all:=Dm (PY F t X hT) x (mg_of X t.g F.QR) (PT F X) k;have hT':=hT (119,117)<|.head _;have h117:=hT'.2;have hl117:l≠117:=λe=>have q:=h117.symm.trans ((R6 s.heap.get? e).symm.trans hl);nomatch q;have ok:dU (Sx prog w) (Tx K s.heap mg mb) (W0 s.heap):={
  base:=λa o e ne=>⟨e,yp ne⟩
  tab:=rfl
  tB:=by obtain ⟨o,ws,file,tf,flags,tg,inF,text,tt,c1,c2,c3,c4,c5,c6,c7,c8,c9,c10⟩:=hT'.1;exact ⟨#[],⟨⟨o,ws,c1,c2,c3,c4⟩,h117⟩,.inl rfl⟩
  tc:=by obtain ⟨o,ws,file,tf,flags,tg,inF,text,tt,c1,c2,c3,c4,c5,c6,c7,c8,c9,c10⟩:=hT'.1;exact ⟨c10,o,c1⟩};have hr:HR (Sx prog w) (W0 s.heap) []:=⟨rfl,λn e he=>au he⟩;have rv:aA (Sx prog w) (W0 s.heap) [.ref l] [.lst (xs.map .int)]:=.cons (.lst hl (yp hl117)<|JD hv) .nil;have rm:aN callerA (k+2):=⟨rfl,(arith hk).1,(arith hk).2⟩;refine aah (all.f (Q:=λv s'=>R (.ok<|.ret v) s') (E:=λe s'=>R (.error e) s') rm rfl ok hr rv hev λq s' W' a1 a2 a3 a4 a5=> ?_) λr s' h=> ?_
 ·refine RV.oZ a5.2.2.2<|G s' (λb o e=> ?_) a3 a2 ?_
  ·have ne:b≠117:=λq=>au<|(hideAll_none _ (by simp[q])).symm.trans e
   exact a1▸a5.1.keep b o (of_hideAll _ e) (yp ne)
  ·exact a5.2.1.tB.elim λmore c=>⟨⟨more,a1▸c.1.2⟩,trivial⟩
 ·cases r with
  |ok f=>cases f<;>first|exact h|exact h.elim
  |error e=>exact h
end
namespace Pl
noncomputable section
theorem RQ(n:Sf):(ev P<|n+1).f=OP P (ev P n):=rfl
theorem RS(n:Sf):(ev P<|n+1).e=PO P (ev P n):=rfl
theorem RI(n:Sf):(ev P<|n+1).t=PJ P (ev P n):=rfl
theorem RX(n:Sf):(ev P<|n+1).s=O8 P (ev P n):=rfl
noncomputable def outF(x:Sh (Fl×Loc×Hp)):Sh (AV×Hp):=Sl x Sd λp=>Wn p λfl p=>Wn p λu0 H1=>Fl.casesOn fl (KX (.none,H1)) Sd λv=>KX (v,H1)
theorem Ip(l:Loc)(H:Hp):outF (KX (.nx,l,H))=KX (.none,H):=rfl
theorem jZ(v:AV)(l:Loc)(H:Hp):outF (KX (.rt v,l,H))=KX (v,H):=rfl
theorem dE{n f:Sf}{vs:R5 AV}{H:Hp}(d:iO)(hd:P.fns[f]? =KX d)(ha:vs.length=d.ar):
  (ev P<|n+1).f f vs H=outF (bO (ev P n) d.body (vs.map .fr++S9 (d.fH-d.ar) .un) H):=by
 have:kq d vs=KX vs:=by unfold kq;rw[Sv ⟨by exact SA ‹_›,Ss (SA ha.symm)<|S0 _ _⟩,ha];simp
 exact bj hd<|bj this (by with_unfolding_all exact rfl)
noncomputable abbrev wC:AV:=.str [109,111,118,101]
noncomputable abbrev tR:AV:=.str [99,111,112,121]
noncomputable abbrev N4:AV:=.str [97,110,101,119]
noncomputable abbrev JN:AV:=.str [97,115,115,105,103,110]
noncomputable abbrev Ku:AV:=.str [117,115,101]
noncomputable abbrev sW:AV:=.str [99,111,110,115,116]
noncomputable abbrev BD:AV:=.str [105,110,116]
noncomputable abbrev FU:AV:=.str [105,51,50]
noncomputable abbrev om:AV:=.str [114,101,116,117,114,110]
noncomputable abbrev fld(k:SK):AV:=.tup [.str [102,105,101,108,100],.int k]
noncomputable abbrev xn:AV:=.tup [.str [100,101,114,101,102]]
noncomputable abbrev Pc(k:SK):AV:=.tup [.str [105,110,100,101,120],.int k]
structure Row where
 l:SK
 st:R5 AV
 z:SK
 fi:Sq
def me:R5 Row:=[⟨1,[],0,Sj⟩,⟨1,[xn],0,Sj⟩,⟨1,[xn,fld 0],0,Sj⟩,⟨2,[Pc 6],0,Sj⟩,⟨2,[Pc 9],0,Sj⟩,⟨3,[],0,Sj⟩,⟨3,[fld 0],1,R8⟩,⟨3,[fld 1],1,R8⟩,
 ⟨4,[],0,Sj⟩,⟨4,[fld 0],1,Sj⟩,⟨4,[fld 0,fld 0],2,R8⟩,⟨4,[fld 1],1,Sj⟩,⟨5,[],0,Sj⟩,⟨5,[xn],1,Sj⟩,⟨5,[xn,fld 1],2,Sj⟩,⟨7,[],0,Sj⟩,⟨7,[xn],0,Sj⟩,⟨2,[],0,Sj⟩]
noncomputable abbrev se(l:SK)(st:R5 AV):AV:=.tup [.int l,.tup st]
noncomputable abbrev Row.av(r:Row):AV:=.tup [.int r.l,.tup r.st,.int r.z,.bool r.fi]
abbrev Row.pl(r:Row):AV:=se r.l r.st
def PR:R5 Row:=me++[⟨0,[],0,Sj⟩,⟨6,[],0,Sj⟩,⟨8,[],0,Sj⟩,⟨9,[],0,Sj⟩]
def aO(k:Sf):Row:=PR.getD k ⟨0,[],0,Sj⟩
inductive Ln where
 |use (mv:Sq) (k:Sf)
 |anew (l:Sf)
noncomputable def Ln.Ok:Ln->Prop
 |.use _ k=>k<18
 |.anew l=>l∈[1,2,3,4,5,7]
abbrev word(mv:Sq):AV:=match mv with|true=>wC|false=>tR
abbrev cst:AV:=.tup [sW,.tup [BD,FU],.int 0]
def Ln.wr:Ln->AV
 |.use _ _=>se 8 []
 |.anew l=>se l []
def Ln.op:Ln->AV
 |.use mv k=> .tup [word mv,(aO k).pl]
 |.anew _=>cst
def Ln.row:Ln->AV
 |.use _ k=>(aO k).av
 |.anew l=> .tup [.int l,.tup [],.int 0,.bool Sj]
def Ln.word:Ln->AV
 |.use mv _=>Mine.Pl.word mv
 |.anew _=>N4
def Ln.st(l:Ln):AV:=.tup [JN,l.wr,.tup [Ku,l.op]]
def Ln.av(l:Ln):AV:=.lst [l.st,l.row,l.word]
abbrev ni:AV:=.tup [.str [98,111,120],.tup [BD,FU]]
abbrev PA:AV:=.tup [BD,.str [117,115,105,122,101]]
abbrev yl:AV:=.tup [.str [116,117,112,108,101],.tup [ni,ni]]
noncomputable abbrev t6(c:Sf):AV:=.tup [.str [97,100,116],.str [c],.tup [],.tup []]
def zJ:R5 AV:=[.tup [BD,FU],.tup [.str [114,101,102],.none,.bool Sj,yl],.tup [.str [97,114,114,97,121],ni,.int 2],t6 68,t6 83,.tup [.str [98,111,120],yl],PA,.tup [.str [114,101,102],.none,.bool R8,ni],ni,PA]
def ja:AV:=.lst<|zJ.map λt=> .tup [t,.bool R8,.str [120]]
def ke(ls:R5 Ln):AV:=.lst [.lst [.lst (ls.map Ln.st),.tup [om]]]
def ay(ls:R5 Ln):AV:=.inst 0 [(7,.str [103]),(8,.int 7),(9,ja),(10,ke ls),(11,.dT [])]
noncomputable abbrev M5(c:Sf)(l:R5 (Sf×AV)):AV:=.lst [.tup [.str [c],.str [116,117,112,108,101],.lst<|l.map λp=> .tup [.str [p.1],p.2]]]
abbrev zZ(c:Sf)(l:R5 (Sf×AV)):AV:=.inst 4 [(51,.str [c]),(52,.str []),(3,.tup []),(2,.tup []),(1,M5 c l),(53,.tup []),(54,.bool Sj)]
def dO:HE:=.inst 6 [(59,.fr .none),(0,.fr<|.dS [([68],zZ 68 [(48,ni),(49,ni)]),([83],zZ 83 [(48,t6 68),(49,ni)])]),(1,.fr<|.dT []),(60,.fr<|.dT []),(61,.fr<|.dT []),
 (4,.fr<|.lst [.inst 5 [(55,.int 0),(3,.tup []),(2,.tup []),(5,.str [68,114,111,112]),(56,.tup []),(6,t6 68),(57,.dT []),(58,.int 0)]]),(62,.fr<|.dT []),(63,.fr<|.dT [])]
def hp(b:R5 AV)(ck mv pt:HE):Hp:=[.box b,.dead,dO,.dead,.dead,.dead,ck,mv,pt]
def il(ls:R5 Ln)(a b c d e:SV):HE:=.inst 1 [(15,.fr<|ay ls),(16,.fr<|.ref 2),(17,a),(18,b),(19,c),(20,d),(21,e)]
theorem D2(n:Sf)(H:Hp):(ev P<|n+20).f 68 [] H=KX (.lst<|me.map Row.av,H):=by kernel_rfl
theorem Fj(n:Sf)(H:Hp):(ev P<|n+20).f 67 [] H=KX (ja,H):=by kernel_rfl
theorem H8(n:Sf)(b:R5 AV):(ev P<|n+20).f 66 [] [.box b,.dead]=KX (.ref 2,[.box b,.dead,dO,.dead,.dead,.dead]):=by kernel_rfl
theorem q3{q r:Sf}{s s':SK}(hs:s=0\/s=1\/s=2)(hs':s'=0\/s'=1\/s'=2)(e:3*(q:SK)+s=3*(r:SK)+s'):q=r/\s=s':=by have d:∀{q:Sf} {s:SK},(s=0\/s=1\/s=2)->(3*(q:SK)+s)/3=q:=fun{q s} h=>(R6 (·/3)<|Int.add_comm _ _).trans<|(Int.add_mul_ediv_left s q (by decide)).trans<|h.elim (λe=>e▸Wq _) λh=>h.elim (λe=>e▸Wq _) λe=>e▸Wq _;have z:=Yx ((d hs).symm.trans ((R6 (·/3) e).trans<|d hs'));exact ⟨z,Int.add_left_cancel<|z▸e⟩
theorem OM{q:Sf}{s:SK}(hs:s=0\/s=1\/s=2):∃m:Sf,3*(q:SK)+s=m/\m<=3*q+2:=
 hs.elim (λe=>⟨3*q+0,e▸rfl,S0 _ 2⟩) λh=>h.elim (λe=>⟨3*q+1,e▸rfl,Tn _⟩) λe=>⟨3*q+2,e▸rfl,SN _⟩
theorem K7:∀a∈[1,2,3,4,5,7],a<10/\a≠9:=by decide
theorem D7{m:Sf}(h:m<4611686018427387904): -4611686018427387904<(m:SK)/\(m:SK)<4611686018427387904:=⟨VF (by decide)<|VE m,Int.ofNat_lt.mpr h⟩
theorem yk{i n:Sf}(h:i<n+1)(g:¬i<n):i=n:=U7 (Uj h)<|Nat.not_lt.mp g
end
noncomputable section
section
variable{n:Sf}{loc loc1:Loc}{H H1 H2 H3 H4:Hp}{v x y z:AV}
theorem Nz{i:Sf}:gm (.n i) v loc=if i<loc.length then KX (loc.set i<|.fr v) else none:=rfl
theorem Rt{ts:R5 Tg}{vs:R5 AV}:gm (.t ts) (.tup vs) loc=pE ts vs loc:=rfl
theorem Rf{ts:R5 Tg}{vs:R5 AV}:gm (.t ts) (.lst vs) loc=pE ts vs loc:=rfl
theorem P0:pE [] [] loc=KX loc:=rfl
theorem PC{t:Tg}{ts:R5 Tg}{vs:R5 AV}:pE (t::ts) (v::vs) loc=mP (gm t v loc) (pE ts vs):=rfl
theorem xc:(ev P<|n+1).e (.c v) loc H=KX (v,H):=rfl
theorem xv{i:Sf}(h:loc[i]? =KX (.fr v)):(ev P<|n+1).e (.v i) loc H=KX (v,H):=oQ h rfl
theorem xg{i:Sf}(h:P.bW[i]? =KX v):(ev P<|n+1).e (.g i) loc H=KX (v,H):=map_eq h
theorem jc{l:R5 ME}{vs:R5 AV}(h:cq (ev P n) l loc H=KX (vs,H1)):(ev P<|n+1).e (.tup l) loc H=KX (.tup vs,H1):=map_eq h
theorem uH{l:R5 ME}{vs:R5 AV}(h:cq (ev P n) l loc H=KX (vs,H1)):(ev P<|n+1).e (.lst l) loc H=KX (.lst vs,H1):=map_eq h
theorem RZ:(ev P<|n+1).e .oL loc H=KX (.dT [],H):=rfl
theorem br{r:Rec}:cq r [] loc H=KX ([],H):=rfl
theorem aH{r:Rec}{e:ME}{l:R5 ME}{vs:R5 AV}(h:r.e e loc H=KX (v,H1))(h2:cq r l loc H1=KX (vs,H2)):cq r (e::l) loc H=KX (v::vs,H2):=aq h<|aq h2 rfl
theorem ej{o:rT}{a b:ME}(h1:(ev P n).e a loc H=KX (x,H1))(h2:(ev P n).e b loc H1=KX (y,H2))(h3:fV o x y=KX z):(ev P<|n+1).e (.bin o a b) loc H=KX (z,H2):=aq h1<|aq h2<|map_eq h3
theorem RJ{a:ME}{b:Sq}(h1:(ev P n).e a loc H=KX (.bool b,H1)):(ev P<|n+1).e (.not a) loc H=KX (.bool<|!b,H1):=aq h1 rfl
theorem PQ{a:ME}{b:SK}(h1:(ev P n).e a loc H=KX (.int b,H1)):(ev P<|n+1).e (.neg a) loc H=KX (.int<|-b,H1):=aq h1 rfl
theorem RM{c a b:ME}{t:Sq}(h1:(ev P n).t c loc H=KX (t,H1))(h2:(ev P n).e (UI t a b) loc H1=KX (x,H2)):(ev P<|n+1).e (.ite c a b) loc H=KX (x,H2):=aq h1 h2
theorem Gw{o:pW}{a b:ME}{t:Sq}(h1:(ev P n).e a loc H=KX (x,H1))(h2:(ev P n).e b loc H1=KX (y,H2))(h3:dF o x y=KX t):(ev P<|n+1).e (.cmp o a b) loc H=KX (.bool t,H2):=aq h1<|aq h2<|map_eq h3
theorem FJ{β:Type}{d:β}{f:Sf->β}(h:ff x y=KX z):x.ie d f=d:=by induction x using AV.casesOn<;>first|rfl|exact au h
theorem g9{a i:ME}(h1:(ev P n).e a loc H=KX (x,H1))(h2:(ev P n).e i loc H1=KX (y,H2))(h3:ff x y=KX z):(ev P<|n+1).e (.idx a i) loc H=KX (z,H2):=aq h1<|aq h2<|(FJ h3).trans<|map_eq h3
theorem AA{a i:ME}{m:Sf}{k:SK}{l:R5 AV}(h1:(ev P n).e a loc H=KX (.ref m,H1))(h2:(ev P n).e i loc H1=KX (.int k,H2))(hb:H2[m]? =KX (.box l))(hk:0<=k/\k<big)(h3:l[k.toNat]? =KX z):(ev P<|n+1).e (.idx a i) loc H=KX (z,H2):=aq h1<|aq h2<|(R6 (λo=>HE.tA o Sd λl=>if 0<=k/\k<big then(l[k.toNat]?).map λv=>(v,H2) else Sd) hb).trans<|(Sv hk).trans<|map_eq h3
theorem Qi{a i:ME}(h1:(ev P n).e a loc H=KX (x,H1))(h2:(ev P n).e i loc H1=KX (y,H2))(h3:AK x y=KX z):(ev P<|n+1).e (.kH a i) loc H=KX (z,H2):=aq h1<|aq h2<|map_eq h3
theorem cH{a:ME}{k:Sf}(h1:(ev P n).e a loc H=KX (x,H1))(h3:cT P H1 x k=KX z):(ev P<|n+1).e (.aL a k) loc H=KX (z,H1):=aq h1<|map_eq h3
theorem cD{g f:Sf}{l:R5 ME}{vs:R5 AV}(hg:P.bW[g]? =KX (.fn f))(h1:cq (ev P n) l loc H=KX (vs,H1))(h2:(ev P n).f f vs H1=KX (z,H2)):(ev P<|n+1).e (.aM g l) loc H=KX (z,H2):=bj hg<|aq h1 h2
theorem t7{g c:Sf}{l:R5 ME}{vs:R5 AV}(hg:P.bW[g]? =KX (.cls c))(h1:cq (ev P n) l loc H=KX (vs,H1))(h2:mF P (ev P n) c vs H1=KX (z,H2)):(ev P<|n+1).e (.callC g l) loc H=KX (z,H2):=bj hg<|aq h1 h2
theorem eM{b:Bi}{l:R5 ME}{vs:R5 AV}(h1:cq (ev P n) l loc H=KX (vs,H1))(h2:gO b vs=KX z):(ev P<|n+1).e (.aW b l) loc H=KX (z,H1):=aq h1<|map_eq h2
theorem Q9{i f m:Sf}{l:R5 ME}{vs:R5 AV}(hg:loc[i]? =KX (.fr<|.fJ f m))(h1:cq (ev P n) l loc H=KX (vs,H1))(h2:(ev P n).f f (.ref m::vs) H1=KX (z,H2)):(ev P<|n+1).e (.lO i l) loc H=KX (z,H2):=oQ hg<|aq h1 h2
theorem cY{a:ME}{k f:Sf}{l:R5 ME}{vs:R5 AV}(h0:(ev P n).e a loc H=KX (x,H1))(hm:bP P H1 x k=KX f)(h1:cq (ev P n) l loc H1=KX (vs,H2))(h2:(ev P n).f f (x::vs) H2=KX (z,H3)):(ev P<|n+1).e (.aD a k l) loc H=KX (z,H3):=aq h0<|bj hm<|aq h1 h2
theorem RC{a:ME}{l:R5 ME}{m:R5 (R5 AV×AV)}{k:R5 AV}(h0:(ev P n).e a loc H=KX (.dT m,H1))(h1:cq (ev P n) l loc H1=KX ([.tup k],H2))(hk:AV.key 4 (.tup k)=R8)(h2:(bX k m).getD .none=z):(ev P<|n+1).e (.get a l) loc H=KX (z,H2):=aq h0<|aq h1<|(Sv hk).trans<|h2▸rfl
theorem MO{a:ME}{l:R5 ME}{m:R5 (R5 AV×AV)}{k:R5 AV}(h0:(ev P n).e a loc H=KX (.dT m,H1))(h1:cq (ev P n) l loc H1=KX ([.tup k,y],H2))(hk:AV.key 4 (.tup k)=R8)(h2:(bX k m).getD y=z):(ev P<|n+1).e (.get a l) loc H=KX (z,H2):=aq h0<|aq h1<|(Sv hk).trans<|h2▸rfl
theorem RG{r:Rec}{e:ME}(h:r.e e loc H=KX (x,H1)):uR r [e] loc H=KX (x,H1):=h
theorem Rv{r:Rec}{e e2:ME}{l:R5 ME}{b:Sq}(h:r.e e loc H=KX (.bool b,H1))(h2:UI b (uR r (e2::l) loc H1) (KX (.bool Sj,H1))=KX (x,H2)):uR r (e::e2::l) loc H=KX (x,H2):=aq h h2
theorem RO{r:Rec}{e:ME}(h:r.e e loc H=KX (x,H1)):Aj r [e] loc H=KX (x,H1):=h
theorem RH{r:Rec}{e e2:ME}{l:R5 ME}{b:Sq}(h:r.e e loc H=KX (.bool b,H1))(h2:UI b (KX (.bool R8,H1)) (Aj r (e2::l) loc H1)=KX (x,H2)):Aj r (e::e2::l) loc H=KX (x,H2):=aq h h2
theorem RL{l:R5 ME}(h:uR (ev P n) l loc H=KX (x,H1)):(ev P<|n+1).e (.and l) loc H=KX (x,H1):=h
theorem xor{l:R5 ME}(h:Aj (ev P n) l loc H=KX (x,H1)):(ev P<|n+1).e (.or l) loc H=KX (x,H1):=h
theorem ph{cap:R5 (Sh Sf)}{t:Tg}{s:Src}{ifs:R5 ME}{elt:ME}{xs vs:R5 AV}(h1:abw P (ev P n) s loc H=KX (xs,H1))(hc:fX loc cap=KX loc1)(h2:eA (ev P n) t ifs elt xs [] loc1 H1=KX (vs,H2)):(ev P<|n+1).e (.comp cap t s ifs elt) loc H=KX (.lst vs,H2):=aq h1<|bj hc<|map_eq h2
theorem Fz{a:ME}{b:Sq}(h1:(ev P n).t a loc H=KX (b,H1)):(ev P<|n+1).t (.not a) loc H=KX (!b,H1):=map_eq h1
theorem uY{l:R5 ME}{b:Sq}(h:u9 (ev P n) l loc H=KX (b,H1)):(ev P<|n+1).t (.and l) loc H=KX (b,H1):=h
theorem QZ{l:R5 ME}{b:Sq}(h:zL (ev P n) l loc H=KX (b,H1)):(ev P<|n+1).t (.or l) loc H=KX (b,H1):=h
theorem RD{r:Rec}:u9 r [] loc H=KX (R8,H):=rfl
theorem RK{r:Rec}:zL r [] loc H=KX (Sj,H):=rfl
theorem jK{r:Rec}{e:ME}{l:R5 ME}{b c:Sq}(h:r.t e loc H=KX (b,H1))(h2:UI b (u9 r l loc H1) (KX (Sj,H1))=KX (c,H2)):u9 r (e::l) loc H=KX (c,H2):=aq h h2
theorem Mg{r:Rec}{e:ME}{l:R5 ME}{b c:Sq}(h:r.t e loc H=KX (b,H1))(h2:UI b (KX (R8,H1)) (zL r l loc H1)=KX (c,H2)):zL r (e::l) loc H=KX (c,H2):=aq h h2
theorem fv{o:pW}{a b:ME}{t:Sq}(h1:(ev P n).e a loc H=KX (x,H1))(h2:(ev P n).e b loc H1=KX (y,H2))(h3:dF o x y=KX t):(ev P<|n+1).t (.cmp o a b) loc H=KX (t,H2):=aq h1<|aq h2<|map_eq h3
theorem RU{neg:Sq}{k:ME}{o a m:Sf}{l:R5 (R5 AV×AV)}{kk:R5 AV}(h1:(ev P n).e k loc H=KX (.tup kk,H1))(hl:loc[o]? =KX (.fr<|.ref m))(hm:cK P H1 m a=KX (.mT l))(hk:AV.key 4 (.tup kk)=R8):(ev P<|n+1).t (.Ao neg k o a) loc H=KX ((bX kk l).isSome !=neg,H1):=aq h1<|oQ hl<|bj hm<|Sv hk
theorem Qg{neg:Sq}{k:ME}{o a m:Sf}{l:R5 (SK×AV)}{kk:SK}(h1:(ev P n).e k loc H=KX (.int kk,H1))(hl:loc[o]? =KX (.fr<|.ref m))(hm:cK P H1 m a=KX (.mI l))(hk:cO kk=R8):(ev P<|n+1).t (.Ao neg k o a) loc H=KX ((ez kk l).isSome !=neg,H1):=aq h1<|oQ hl<|bj hm<|Sv hk
theorem tv{i:Sf}{b:Sq}(h:loc[i]? =KX (.fr<|.bool b)):(ev P<|n+2).t (.v i) loc H=KX (b,H):=aq (xv h) rfl
theorem tW{g:Sf}{l:R5 ME}{b:Sq}(h:(ev P n).e (.aM g l) loc H=KX (.bool b,H1)):(ev P<|n+1).t (.aM g l) loc H=KX (b,H1):=aq h rfl
theorem qA{a:ME}{k:Sf}{l:R5 ME}{b:Sq}(h:(ev P n).e (.aD a k l) loc H=KX (.bool b,H1)):(ev P<|n+1).t (.aD a k l) loc H=KX (b,H1):=aq h rfl
theorem RF{o a m:Sf}{k:ME}{sv:SV}{l:R5 (R5 AV×AV)}{kk:R5 AV}(hl:loc[o]? =KX (.fr<|.ref m))(h0:cK P H m a=KX sv)(h1:(ev P n).e k loc H=KX (.tup kk,H1))(hm:cK P H1 m a=KX (.mT l))(hk:AV.key 4 (.tup kk)=R8)(h3:bX kk l=KX z):(ev P<|n+1).e (.xb o a k) loc H=KX (z,H1):=oQ hl<|(SI (by rw[h0];exact SR)).trans<|aq h1<|bj hm<|(Sv hk).trans<|map_eq h3
theorem M1{o a m:Sf}{k:ME}{sv:SV}{l:R5 (SK×AV)}{kk:SK}(hl:loc[o]? =KX (.fr<|.ref m))(h0:cK P H m a=KX sv)(h1:(ev P n).e k loc H=KX (.int kk,H1))(hm:cK P H1 m a=KX (.mI l))(hk:cO kk=R8)(h3:ez kk l=KX z):(ev P<|n+1).e (.xb o a k) loc H=KX (z,H1):=oQ hl<|(SI (by rw[h0];exact SR)).trans<|aq h1<|bj hm<|(Sv hk).trans<|map_eq h3
def we(r:Rec)(l:R5 MS)(fl:Fl)(loc:Loc)(H:Hp):Sh (Fl×Loc×Hp):=Fl.casesOn fl (bO r l loc H) (KX (.ct,loc,H)) λv=>KX (.rt v,loc,H)
variable{X:Sh (Fl×Loc×Hp)}{fl:Fl}
theorem s0{r:Rec}:bO r [] loc H=KX (.nx,loc,H):=rfl
theorem s1{r:Rec}{s:MS}{l:R5 MS}(h1:r.s s loc H=KX (fl,loc1,H1))(h2:we r l fl loc1 H1=X):bO r (s::l) loc H=X:=g7 h1 (by cases fl<;>exact h2)
theorem qt{e:ME}(h:(ev P n).e e loc H=KX (v,H1)):(ev P<|n+1).s (.ret e) loc H=KX (.rt v,loc,H1):=map_eq h
theorem AP:(ev P<|n+1).s .ret0 loc H=KX (.rt .none,loc,H):=rfl
theorem Ht:(ev P<|n+1).s .cont loc H=KX (.ct,loc,H):=rfl
theorem rM{e:ME}(h:(ev P n).e e loc H=KX (v,H1)):(ev P<|n+1).s (.ex e) loc H=KX (.nx,loc,H1):=map_eq h
theorem ib{i:Sf}{e:ME}(h:(ev P n).e e loc H=KX (v,H1))(h2:fM loc i (.fr v)=KX loc1):(ev P<|n+1).s (.as i e) loc H=KX (.nx,loc1,H1):=aq h<|map_eq h2
theorem Fu{t:Tg}{e:ME}(h:(ev P n).e e loc H=KX (v,H1))(h2:gm t v loc=KX loc1):(ev P<|n+1).s (.asT t e) loc H=KX (.nx,loc1,H1):=aq h<|map_eq h2
theorem Qw{i:Sf}{l:R5 ME}{vs:R5 AV}(h:cq (ev P n) l loc H=KX (vs,H1))(h2:fM loc i (.ml vs)=KX loc1):(ev P<|n+1).s (.asL i l) loc H=KX (.nx,loc1,H1):=aq h<|map_eq h2
theorem P4{i:Sf}{e:ME}{vs:R5 AV}(h:(ev P n).e e loc H=KX (.lst vs,H1))(h2:fM loc i (.ml vs)=KX loc1):(ev P<|n+1).s (.asC i e) loc H=KX (.nx,loc1,H1):=aq h<|map_eq h2
theorem dh{c:ME}{t e:R5 MS}{b:Sq}(h1:(ev P n).t c loc H=KX (b,H1))(h2:bO (ev P n) (UI b t e) loc H1=X):(ev P<|n+1).s (.iff c t e) loc H=X:=aq h1 h2
theorem iU{t:Tg}{s:Src}{b:R5 MS}{xs:R5 AV}(h1:abw P (ev P n) s loc H=KX (xs,H1))(h2:forL (ev P n) t b xs loc H1=X):(ev P<|n+1).s (.for t s b) loc H=X:=aq h1 h2
theorem sE{i:Sf}{sv:SV}(h:loc[i]? =KX sv)(hf:sv.frozen=KX v):(ev P<|n+1).s (.gH i) loc H=KX (.nx,loc.set i<|.fr v,H):=bj h<|map_eq hf
theorem AN{i:Sf}{e:ME}{l:R5 AV}(h:(ev P n).e e loc H=KX (v,H1))(h2:loc[i]? =KX (.ml l))(h3:aw l.length=R8):(ev P<|n+1).s (.app i e) loc H=KX (.nx,loc.set i<|.ml<|l++[v],H1):=aq h<|bj h2<|Sv h3
theorem RY{i:Sf}{e:ME}{l vs:R5 AV}(h:(ev P n).e e loc H=KX (.lst vs,H1))(h2:loc[i]? =KX (.ml l))(h3:aw l.length=R8)(h4:aw vs.length=R8):(ev P<|n+1).s (.ext i e) loc H=KX (.nx,loc.set i<|.ml<|l++vs,H1):=aq h<|bj h2<|Sv (by rw[h3,h4];rfl)
theorem sat{o e:ME}{k m:Sf}(h:(ev P n).e e loc H=KX (v,H1))(h2:(ev P n).e o loc H1=KX (.ref m,H2))(h3:fu P H2 m k (.fr v)=KX H3):(ev P<|n+1).s (.at o k e) loc H=KX (.nx,loc,H3):=aq h<|aq h2<|map_eq h3
theorem Qd{o:ME}{k m:Sf}{b:Sq}(h2:(ev P n).e o loc H=KX (.ref m,H1))(h3:fu P H1 m k (if b then .hY [] else .ml [])=KX H2):(ev P<|n+1).s (.atL o k b) loc H=KX (.nx,loc,H2):=aq h2<|map_eq (by cases b<;>exact h3)
theorem Qh{o:ME}{k m:Sf}{b:DK}(h2:(ev P n).e o loc H=KX (.ref m,H1))(h3:fu P H1 m k (match b with|.T=> .mT []|.I=> .mI []|.S=> .mS [])=KX H2):(ev P<|n+1).s (.atD o k b) loc H=KX (.nx,loc,H2):=aq h2<|map_eq (by cases b<;>exact h3)
theorem Qm{o e:ME}{k m:Sf}{l0 l:R5 AV}(h1:(ev P n).e o loc H=KX (.ref m,H1))(h0:cK P H1 m k=KX (.ml l0))(h2:(ev P n).e e loc H1=KX (v,H2))(h3:cK P H2 m k=KX (.ml l))(h4:aw l.length=R8)(h5:dR H2 m k (.ml<|l++[v])=KX H3):(ev P<|n+1).s (.apA o k e) loc H=KX (.nx,loc,H3):=aq h1<|bj h0<|aq h2<|bj h3<|(Sv h4).trans<|map_eq h5
theorem RW{o kk e:ME}{k m:Sf}{l:R5 (R5 AV×AV)}{key:R5 AV}(h1:(ev P n).e e loc H=KX (v,H1))(h2:(ev P n).e o loc H1=KX (.ref m,H2))(h3:(ev P n).e kk loc H2=KX (.tup key,H3))(h4:cK P H3 m k=KX (.mT l))(hk:AV.key 4 (.tup key)=R8)(hl:aw l.length=R8)(h5:dR H3 m k (.mT<|hG key v l)=KX H4):
  (ev P<|n+1).s (.stA o k kk e) loc H=KX (.nx,loc,H4):=aq h1<|aq h2<|aq h3<|bj h4<|(Sv (by rw[hk,hl];rfl)).trans<|map_eq h5
theorem Qu{o kk e:ME}{k m:Sf}{l:R5 (SK×AV)}{key:SK}(h1:(ev P n).e e loc H=KX (v,H1))(h2:(ev P n).e o loc H1=KX (.ref m,H2))(h3:(ev P n).e kk loc H2=KX (.int key,H3))(h4:cK P H3 m k=KX (.mI l))(hk:cO key=R8)(hl:aw l.length=R8)(h5:dR H3 m k (.mI<|iF key v l)=KX H4):
  (ev P<|n+1).s (.stA o k kk e) loc H=KX (.nx,loc,H4):=aq h1<|aq h2<|aq h3<|bj h4<|(Sv (by rw[hk,hl];rfl)).trans<|map_eq h5
theorem KS{o:ME}{k m:Sf}{sv:SV}(h1:(ev P n).e o loc H=KX (.ref m,H1))(h2:cK P H1 m k=KX sv)(h3:sv.frozen=KX v)(h4:dR H1 m k (.fr v)=KX H2):(ev P<|n+1).s (.frA o k) loc H=KX (.nx,loc,H2):=aq h1<|bj h2<|bj h3<|map_eq h4
theorem LU{i m:Sf}{kk e:ME}{l:R5 AV}{k:SK}(h1:(ev P n).e e loc H=KX (v,H1))(hl:loc[i]? =KX (.fr<|.ref m))(h2:(ev P n).e kk loc H1=KX (.int k,H2))(hb:H2[m]? =KX (.box l))(hk:0<=k/\k.toNat<l.length/\l.length<2000):(ev P<|n+1).s (.stB i kk e) loc H=KX (.nx,loc,H2.set m<|.box<|l.set k.toNat v):=aq h1<|oQ hl<|aq h2<|(R6 (λo=>HE.tA o Sd λl=>if 0<=k/\k.toNat<l.length/\l.length<2000 then KX (Fl.nx,loc,H2.set m<|.box<|l.set k.toNat v) else Sd) hb).trans<|Sv hk
theorem iV{a:ME}{l:R5 AV}(h:(ev P n).e a loc H=KX (.lst l,H1))(h2:aw l.length=R8):abw P (ev P n) (.e a) loc H=KX (l,H1):=aq h<|Sv h2
theorem iJ{a:ME}{l:R5 AV}(h:(ev P n).e a loc H=KX (.tup l,H1))(h2:aw l.length=R8):abw P (ev P n) (.e a) loc H=KX (l,H1):=aq h<|Sv h2
theorem Ry{l:R5 ME}{vs:R5 AV}(h:cq (ev P n) l loc H=KX (vs,H1))(h2:aw vs.length=R8):abw P (ev P<|n+1) (.e<|.tup l) loc H=KX (vs,H1):=iJ (jc h) h2
theorem BG{a:ME}{k:SK}(h:(ev P n).e a loc H=KX (.int k,H1))(h2:k<1000/\cO k=R8):abw P (ev P n) (.rng a) loc H=KX (fZ k,H1):=aq h<|Sv h2
theorem Qb{a:ME}{l:R5 AV}(h:(ev P n).e a loc H=KX (.lst l,H1))(h2:aw l.length=R8):abw P (ev P n) (.enum a) loc H=KX (jz 0 l,H1):=aq h<|Sv h2
theorem condT{α:Type}{b:Sq}{p q X:α}(hb:b=R8)(h:p=X):UI b p q=X:=by subst hb;exact h
theorem Nb{α:Type}{b:Sq}{p q X:α}(hb:b=Sj)(h:q=X):UI b p q=X:=by subst hb;exact h
theorem R4{r:Rec}{b:Sq}{t e:R5 MS}(hb:b=R8)(h:bO r t loc H=X):bO r (UI b t e) loc H=X:=by subst hb;exact h
theorem R2{r:Rec}{b:Sq}{t e:R5 MS}(hb:b=Sj)(h:bO r e loc H=X):bO r (UI b t e) loc H=X:=by subst hb;exact h
theorem R3{r:Rec}{b:Sq}{t e:ME}{Y:Sh (AV×Hp)}(hb:b=R8)(h:r.e t loc H=Y):r.e (UI b t e) loc H=Y:=by subst hb;exact h
theorem R1{r:Rec}{b:Sq}{t e:ME}{Y:Sh (AV×Hp)}(hb:b=Sj)(h:r.e e loc H=Y):r.e (UI b t e) loc H=Y:=by subst hb;exact h
theorem bp{r:Rec}{l:R5 MS}(h:bO r l loc H=X):we r l .nx loc H=X:=h
theorem lE{r:Rec}{l:R5 MS}:we r l (.rt v) loc H=KX (.rt v,loc,H):=rfl
theorem Hc{r:Rec}{l:R5 MS}:we r l .ct loc H=KX (.ct,loc,H):=rfl
theorem RB{f ar nl:Sf}{dfl:R5 AV}{b:R5 MS}{vs:R5 AV}{loc0:Loc}(hd:P.fns[f]? =KX ⟨ar,dfl,nl,b⟩)(ha:vs.length=ar)(hl:vs.map .fr++S9 (nl-ar) .un=loc0)(h:bO (ev P n) b loc0 H=KX (fl,loc1,H1))(ho:outF (KX (fl,loc1,H1))=KX (z,H2)):(ev P<|n+1).f f vs H=KX (z,H2):=by rw[dE _ hd ha];rw[hl,h,ho]
end
end
def OT(x:String):Lean.Name:=(x.splitOn "/").foldl Lean.Name.str .anonymous
def zF(x:String):String:="<tacticSeq <tacticSeq1Indented < "++x++" > > >"
def Cu(l:List String):String:=l.foldl (λa t=>a++" <| '| "++zF t++" >") "<first 'first <"++" > >"
def Lp(x:String):String:="<withReducible 'with_reducible "++zF x++" >"
def O4(x:String):String:="<exact 'exact "++x++" >"
def Hx(x:String):String:="<apply 'apply "++x++" >"
def Kk(x y:String):String:="</Lean/Parser/Term/app "++x++" < "++y++" > >"
def Ph(x:String):String:="<simp 'simp <optConfig < > > < > < 'only > < '[ < "++String.intercalate " ', " ((x.splitOn " ").map λy=>"<simpLemma < > < > "++y++" >")++" > '] > < > > '; "
def Pq(x:String):String:="</Lean/Parser/Term/byTactic 'by "++zF x++" >"
def GN(_:Unit):String:=O4 "rfl"
def PM(_:Unit):String:=Lp "<assumption 'assumption >"
def QJ(x:String):String:=Hx (Kk x (Pq (Cu ["<withUnfoldingAll 'with_unfolding_all "++zF (GN ())++" >",PM ()])))
def OS(_:Unit):String:=Lp (Cu (("xc xv g9 cH xg cY cD eM jc uH Gw Qi ej RM RJ PQ RZ RL xor Q9 ph br aH RG Rv RO RH fv Fz uY QZ RD RK jK Mg tv tW qA bp lE Hc s0 s1 qt ib dh Fu rM AP Ht Qw P4 iU sE AN RY sat Qd Qh Qm KS LU Ry iV iJ BG Qb".splitOn " ").map Hx++("R4 R2 R3 R1 condT Nb".splitOn " ").map QJ))
def Pn(_:Unit):String:=Cu [PM (),"<paren '( "++zF (Ph "fM Nz Rt Rf P0 PC Qt List/set_cons_zero List/set_cons_succ List/length_cons List/length_nil Nat/reduceAdd Nat/reduceLT reduceIte List/map_cons List/map_nil List/replicate List/cons_append List/nil_append Nat/reduceSub"++Cu ["<done 'done >",GN ()])++" ') >",GN ()]
def Q3(y:String):String:=if y=="_" then "</Lean/Parser/Term/hole '_ >" else y
def Rb(x:String):String:=Lp (match x.splitOn " " with
 |[]=>x
 |y::l=>if y=="!" then Hx (String.intercalate " " l) else O4 (if l.isEmpty then x else Kk y (String.intercalate " " (l.map Q3))))
def Q2(x:String):String:=match x.splitOn "|" with
 |[]=>x
 |y::l=>if y=="R" then "<repeat' 'repeat' "++zF (Cu (l.map Rb++[OS (),Pn ()]))++" >" else if y=="EV" then OS () else if y=="SIDE" then Pn () else Hx (Kk "RB" ("rfl rfl "++Pq (Ph "List/map_cons List/map_nil List/replicate List/cons_append List/nil_append List/length_cons List/length_nil Nat/reduceAdd Nat/reduceSub"++GN ())))
def Q6(st:List (Lean.Name×Array Lean.Syntax))(t:String):List (Lean.Name×Array Lean.Syntax):=
 let c:=t.toList.headD ' '
 let k:=String.ofList t.toList.tail
 if c== '<'then(if k=="" then `null else if k=="|" then `group else if k.toList.headD ' ' == '/'then OT (String.ofList k.toList.tail) else .str `Lean.Parser.Tactic k,#[])::st
 else match st with
 |[]=> []
 |(l,b)::r=>if c== '>'then(match r with|[]=> [(l,b)]|(m,d)::r=>(m,d.push (.node .none l b))::r) else(l,if c== '\''then b.push (.atom .none k) else if c== ' 'then b else b.push (Lean.mkIdent (OT t)).raw)::r
set_option hygiene false
local macro_rules
| `(tactic|walk_at $s)=>pure ((((Q2 s.getString).splitOn " ").foldl Q6 [(`null,#[])]).head!.2[0]!)
noncomputable section
theorem Lg(n:Sf)(H:Hp)(ls:R5 Ln):(ev P<|n+20).f 12 [ay ls,.int 0] H=KX (.lst<|ls.map Ln.st,H):=by kernel_rfl
theorem LH(n:Sf)(H:Hp)(ls:R5 Ln):(ev P<|n+20).f 13 [ay ls,.int 0] H=KX (.tup [om],H):=by kernel_rfl
theorem Ka(n:Sf)(H:Hp)(op:AV):(ev P<|n+20).f 19 [.tup [Ku,op]] H=KX (.lst [op],H):=by kernel_rfl
theorem aY{n:Sf}(h:n<1000):aw n=true:=Sz h
theorem DS{i:Sf}(h:i<1000):(i:SK)<big:=(D7<|Sw h (by decide)).2
theorem lV{l:R5 AV}(h:l.length<1000):gO .len [.lst l]=KX (.int l.length):=by exact Sv<|aY h
theorem uI{l:R5 AV}{i:Sf}{x:AV}(h:l[i]? =KX x)(hi:i<1000):ff (.lst l) (.int i)=KX x:=by exact wY.trans<|(Sv ⟨VE _,DS hi⟩).trans h
theorem k9(n:Sf)(H:Hp)(ls:R5 Ln)(i:Sf)(l:Ln)(hl:ls[i]? =KX l)(hs:ls.length<900):(ev P<|n+40).f 20 [ay ls,.tup [.int 0,.int i]] H=KX (.lst [l.op],H):=by
 have hi:=(List.getElem?_eq_some_iff.mp hl).1;have e3:ff (.lst<|ls.map Ln.st) (.int i)=KX l.st:=uI (by rw[S1,hl];rfl)<|Sw hi<|Sw hs (by decide);have e4:decide ((i:SK)<(ls.map Ln.st).length)=true:=by rw[Sr];exact Sz<|Int.ofNat_lt.mpr hi
 have e5:gO .len [.lst (ls.map Ln.st)]=KX (.int (ls.map Ln.st).length):=lV (by rw[Sr];exact Sw hs (by decide))
 walk_at "C"
 unfold k7
 walk_at "R|Lg _ _ _|Ka _ _ _"
end
noncomputable section
section
variable(n:Sf)(H:Hp){ls:R5 Ln}{i:Sf}{l:Ln}
theorem AD(hl:ls[i]? =KX l)(hs:ls.length<900):ff (.lst<|ls.map Ln.st) (.int i)=KX l.st/\decide ((i:SK)<(ls.map Ln.st).length)=R8/\gO .len [.lst (ls.map Ln.st)]=KX (.int (ls.map Ln.st).length):=by have hi:=(List.getElem?_eq_some_iff.mp hl).1;exact ⟨uI (by rw[S1,hl];rfl)<|Sw ‹_› (Si ‹_› (by decide)),by rw[Sr];exact Sz<|Int.ofNat_le.mpr ‹_›,lV (by rw[Sr];exact Si ‹_› (by decide))⟩
theorem tV(hs:ls.length<900):decide (((ls.length:Sf):SK)<(ls.map Ln.st).length)=Sj/\gO .len [.lst (ls.map Ln.st)]=KX (.int (ls.map Ln.st).length):=by exact ⟨by rw[Sr];exact Un<|Int.lt_irrefl _,lV (by rw[Sr];exact Si ‹_› (by decide))⟩
theorem j9(hs:ls.length<900):(ev P<|n+40).f 20 [ay ls,.tup [.int 0,.int (ls.length:Sf)]] H=KX (.lst [],H):=by
 obtain ⟨e4,e5⟩:=tV hs
 walk_at "C"
 unfold k7
 walk_at "R|Lg _ _ _|LH _ _ _"
theorem mf(hl:ls[i]? =KX l)(hs:ls.length<900):(ev P<|n+40).f 26 [ay ls,.tup [.int 0,.int i]] H=KX (l.wr,H):=by
 obtain ⟨e3,e4,e5⟩:=AD hl hs
 walk_at "C"
 unfold lZ
 walk_at "R"
theorem kX(hs:ls.length<900):(ev P<|n+40).f 26 [ay ls,.tup [.int 0,.int (ls.length:Sf)]] H=KX (.none,H):=by
 obtain ⟨e4,e5⟩:=tV hs
 walk_at "C"
 unfold lZ
 walk_at "R"
theorem yU(hl:ls[i]? =KX l)(hs:ls.length<900):(ev P<|n+40).f 25 [ay ls,.tup [.int 0,.int i]] H=KX (.none,H):=by
 obtain ⟨e3,e4,e5⟩:=AD hl hs
 walk_at "C"
 unfold nF
 walk_at "R"
theorem wX(hs:ls.length<900):(ev P<|n+40).f 25 [ay ls,.tup [.int 0,.int (ls.length:Sf)]] H=KX (.none,H):=by
 obtain ⟨e4,e5⟩:=tV hs
 walk_at "C"
 unfold nF
 walk_at "R"
theorem zq(hl:ls[i]? =KX l)(hs:ls.length<900):(ev P<|n+40).f 28 [ay ls,.tup [.int 0,.int i]] H=KX (.none,H):=by
 obtain ⟨e3,e4,e5⟩:=AD hl hs
 walk_at "C"
 unfold nC
 walk_at "R"
theorem wG(hs:ls.length<900):(ev P<|n+40).f 28 [ay ls,.tup [.int 0,.int (ls.length:Sf)]] H=KX (.none,H):=by
 obtain ⟨e4,e5⟩:=tV hs
 walk_at "C"
 unfold nC
 walk_at "R"
theorem Kx(hi:i<=ls.length):dF .eq (.int i) (.int (ls.map Ln.st).length)=KX (decide (i=ls.length)):=by
 show KX (decide ((i:SK)=((ls.map Ln.st).length)))=_;rw[Sr]
 congr 1
 exact decide_eq_decide.mpr Int.ofNat_inj
theorem jB(hi:i<=ls.length)(hs:ls.length<900):(ev P<|n+40).f 27 [ay ls,.tup [.int 0,.int i]] H=KX (.none,H):=by
 have e6:=Kx hi;have e5:gO .len [.lst (ls.map Ln.st)]=KX (.int (ls.map Ln.st).length):=lV (by rw[Sr];exact Si ‹_› (by decide))
 by_cases hq:i=ls.length
 ·have e7:=Sz hq
  walk_at "C"
  unfold ma
  walk_at "R"
 ·have e7:=Un hq
  walk_at "C"
  unfold ma
  walk_at "R"
noncomputable def tupI(i:Sf):AV:=.tup [.int 0,.int i]
def dW(k:Sf):R5 AV:=(So k).map tupI
end
end
noncomputable section
section
variable{r:Rec}{loc loc1 loc2:Loc}{H H1 H2:Hp}{v x:AV}{xs acc:R5 AV}{t:Tg}{b:R5 MS}
theorem AU{i:Sf}{elt:ME}{g:AV->AV}:∀(xs acc:R5 AV) (loc:Loc),i<loc.length->acc.length+xs.length<1000->(∀x∈xs,r.e elt (loc.set i<|.fr x) H=KX (g x,H))->eA r (.n i) [] elt xs acc loc H=KX (acc++xs.map g,H):=by
 intro xs
 induction xs with
 |nil=>
  intro acc loc u2 u3 u4;exact R6 (λl=>KX (l,H)) (SP acc).symm
 |cons x xs ih=>
  intro acc loc hi hl h;exact
  (kQ r (Nz.trans<|Sv hi) rfl (h x<|.head _) (aY<|Sb (S0 _ _) hl)).trans
   ((ih (acc++[g x]) (loc.set i<|.fr x) (by rw[UC];exact hi) (by rw[Sy];exact Sb (SA<|TP _ _ _) hl) λy hy=>by rw[WZ];exact h y<|.tail _ hy).trans
   (R6 (λl=>KX (l,H))<|Tf ..))
theorem G4{R:Sf->Rec}{I:Hp->Prop}{i:Sf}{ifs:R5 ME}{elt:ME}{p:AV->Sq}{g:AV->AV}:∀(xs acc:R5 AV) (loc:Loc) (H:Hp),i<loc.length->acc.length+xs.length<1000->
  (∀x∈xs,∀H,I H->∃H',I H'/\∀n,iM (R n) ifs (loc.set i<|.fr x) H=KX (p x,H'))->(∀x∈xs,∀H,∀n,(R n).e elt (loc.set i<|.fr x) H=KX (g x,H))->I H->
  ∃H',I H'/\∀n,eA (R n) (.n i) ifs elt xs acc loc H=KX (acc++(xs.filter p).map g,H'):=by
 intro xs
 induction xs with
 |nil=>
  intro acc loc H u3 u4 u5 u6 hI;exact ⟨H,hI,λn=>R6 (λl=>KX (l,H)) (SP acc).symm⟩
 |cons x xs ih=>
  intro acc loc H hi hl h1 h2 hI;obtain ⟨H1,i1,e1⟩:=h1 x (.head _) H hI;have et:gm (.n i) x loc=KX (loc.set i<|.fr x):=Sv hi;simp only[TC] at hl;have rc:=λacc' ha=>ih acc' (loc.set i<|.fr x) H1 (by simpa using hi) ha (λy hy=>by rw[WZ];exact h1 y<|.tail _ hy) (λy hy=>by rw[WZ];exact h2 y<|.tail _ hy) i1
  cases hp:p x with
  |true=>
   obtain ⟨H2,i2,e2⟩:=rc (acc++[g x]) (by rw[Sy];exact Sb (SA<|TP _ _ _) hl);refine ⟨H2,i2,λn=> ?_⟩;rw[kQ _ et ((e1 n).trans (by rw[hp])) (h2 x (.head _) _ n) (aY<|Sb (S0 _ _) hl),e2 n,Zl hp,T7,Tf]
   rfl
  |false=>
   obtain ⟨H2,i2,e2⟩:=rc acc<|abA hl;refine ⟨H2,i2,λn=> ?_⟩;rw[w9 _ et ((e1 n).trans (by rw[hp])),e2 n,WU (by rw[hp];decide)]
theorem l5{R:Sf->Rec}{J:Sf->Loc->Hp->Prop}:∀(xs:R5 AV) (k:Sf) (loc:Loc) (H:Hp),
  (∀j x,xs[j]? =KX x->∀loc H,J (k+j) loc H->∃loc1 loc2 H2,gm t x loc=KX loc1/\J (k+j+1) loc2 H2/\((∀n,bO (R n) b loc1 H=KX (.nx,loc2,H2))\/∀n,bO (R n) b loc1 H=KX (.ct,loc2,H2)))->J k loc H->
  ∃loc' H',J (k+xs.length) loc' H'/\∀n,forL (R n) t b xs loc H=KX (.nx,loc',H'):=by
 intro xs
 induction xs with
 |nil=>
  intro k loc H u3 hJ;exact ⟨loc,H,hJ,λu0=>rfl⟩
 |cons x xs ih=>
  intro k loc H h hJ;obtain ⟨loc1,loc2,H2,e1,j1,e2⟩:=h 0 x rfl loc H hJ;obtain ⟨loc',H',j',e'⟩:=ih (k+1) loc2 H2 (λj y hy loc H hj=>by have:=h (j+1) y hy loc H (by rw[show k+(j+1)=k+1+j from by lia];exact hj);rw[show k+(j+1)=k+1+j from by lia] at this;exact this) j1;refine ⟨loc',H',by rw[show k+(x::xs).length=k+1+xs.length from TP k xs.length 1];exact j',λn=> ?_⟩;exact bj e1<|e2.elim (λe2=>g7 (e2 n)<|e' n) λe2=>g7 (e2 n)<|e' n
def wx(r:Rec)(t:Tg)(b:R5 MS)(xs:R5 AV)(fl:Fl)(loc:Loc)(H:Hp):Sh (Fl×Loc×Hp):=Fl.casesOn fl (forL r t b xs loc H) (forL r t b xs loc H) λv=>KX (.rt v,loc,H)
variable{X:Sh (Fl×Loc×Hp)}{fl:Fl}
theorem nD:forL r t b [] loc H=KX (.nx,loc,H):=rfl
theorem lh(h1:gm t x loc=KX loc1)(h2:bO r b loc1 H=KX (fl,loc2,H2))(h3:wx r t b xs fl loc2 H2=X):forL r t b (x::xs) loc H=X:=bj h1<|g7 h2 (by cases fl<;>exact h3)
theorem vS(h:forL r t b xs loc H=X):wx r t b xs .nx loc H=X:=h
theorem Rd(h:forL r t b xs loc H=X):wx r t b xs .ct loc H=X:=h
theorem Kd:wx r t b xs (.rt v) loc H=KX (.rt v,loc,H):=rfl
theorem Rw(h:forL r t b [.int 0] loc H=X):forL r t b (fZ 1) loc H=X:=h
theorem gW{k:Sf}(h:k<1000):(k:SK)<1000/\cO (k:SK)=true:=⟨Int.ofNat_lt.mpr h,Bool.and_eq_true_iff.mpr<|(D7<|Sw h (by decide)).imp (λa=>Sz a) λa=>Sz a⟩
theorem jP(k:Sf):fZ k=(So k).map λi:Sf=>AV.int i:=by unfold fZ;rw[UE]
theorem o8(n:Sf)(H:Hp){ls:R5 Ln}(hs:ls.length<900):(ev P<|n+40).f 14 [ay ls] H=KX (.lst<|dW<|ls.length+1,H):=by
 have e5:gO .len [.lst (ls.map Ln.st)]=KX (.int ls.length):=by rw[lV (by rw[Sr];exact Sw hs (by decide)),Sr]
 have e6:fV .add (.int ls.length) (.int 1)=KX (.int<|(ls.length+1:Sf)):=rfl;have e7:(((ls.length+1:Sf):SK)<1000/\cO ((ls.length+1:Sf))=R8):=gW (by lia);have e8:∀m (loc:Loc),loc=[.un,.un,.fr<|.int 0]->eA (ev P<|m+10) (.n 1) [] (.tup [.v 2,.v 1]) (fZ<|(ls.length+1:Sf)) [] loc H=KX (dW<|ls.length+1,H):=by
  intro m loc hl;rw[jP,AU (g:=λx=> .tup [.int 0,x])]
  ·rw[UT];rfl
  ·rw[hl];decide
  ·simp;lia
  ·intro x _
   rw[hl]
   walk_at "R"
 have e9:aw (dW<|ls.length+1).length=true:=aY<|Sb (SA<|(Sr _).trans X5)<|Sw (Yt hs) (by decide);have e10:gO .len [ke ls]=KX (.int 1):=rfl;have e11:((1:SK)<1000/\cO 1=R8):=gW (k:=1) (by decide)
 walk_at "C"
 unfold wJ
 walk_at "R|Lg _ _ _|e8 _ _ rfl|! iU|! vS|nD|! Rw|! lh"
end
end
noncomputable section
def ei:Sf->R5 AV
 |10=> [.int 4,.tup [fld 0]]
 |11=> [.int 4,.tup [fld 0,fld 0]]
 |12=> [.int 3,.tup [fld 0]]
 |13=> [.int 3,.tup [fld 1]]
 |14=> [.int 4,.tup [fld 1]]
 |15=> [.int 5,.tup [xn]]
 |16=> [.int 5,.tup [xn,fld 1]]
 |t=> [.int t,.tup []]
noncomputable def gQ:Sf->Sh Sf
 |10=>KX 4
 |11=>KX 10
 |12=>KX 3
 |13=>KX 3
 |14=>KX 4
 |15=>KX 5
 |16=>KX 15
 |_=>Sd
noncomputable def cR(t:Sf):R5 Sf->Sf
 |[]=>0
 |x::l=>if x=t then 0 else cR t l+1
noncomputable def mO:Sf->R5 Sf->R5 (Sf×Sf)
 |_,[]=> []
 |k,x::l=>(x,k)::mO (k+1) l
def nums(M:R5 Sf):R5 (R5 AV×AV):=(mO 0 M).map λp=>(ei p.1,.int p.2)
def places(M:R5 Sf):R5 AV:=M.map λt=> .tup<|ei t
def parents(M:R5 Sf):R5 AV:=M.map λt=>match gQ t with
 |some p=> .int<|cR p M
 |none=> .int<|-1
def kids(M:R5 Sf):R5 (R5 AV):=M.map λt=>((mO 0 M).filter λp=>gQ p.1==KX t).map λp=> .int p.2
noncomputable def pg:R5 Nat:=[0,1,2,3,4,5,6,7,8,9]
def ak(T:R5 Sf):R5 Nat:=pg++[10,11]++T
noncomputable def iX(T:R5 Sf)(t:Sf):R5 Nat:=if t<12 then T else if T.contains t then T else if t=16 then(if T.contains 15 then T++[16] else T++[15,16]) else T++[t]
def jo(ls:R5 Ln)(M:R5 Sf):HE:=il ls (.ml<|places M) (.ml<|parents M) (.hY<|kids M) (.mT<|nums M)<|.mI []
def ba(ls:R5 Ln)(M:R5 Sf)(lots:R5 (SK×AV)):HE:=il ls (.fr<|.lst<|places M) (.fr<|.lst<|parents M) (.fr<|.lst<|(kids M).map .lst) (.fr<|.dT<|nums M)<|.mI lots
noncomputable def Ts:R5 (R5 Sf):=[[],[12],[13],[14],[15],[15,16],[12,13],[12,14],[12,15],[12,15,16],[13,12],[13,14],[13,15],[13,15,16],[14,12],[14,13],[14,15],[14,15,16],[15,12],[15,13],[15,14],[15,16,12],[15,16,13],[15,16,14],[12,13,14],[12,13,15],[12,13,15,16],[12,14,13],[12,14,15],[12,14,15,16],[12,15,13],[12,15,14],[12,15,16,13],[12,15,16,14],[13,12,14],[13,12,15],[13,12,15,16],[13,14,12],[13,14,15],[13,14,15,16],[13,15,12],[13,15,14],[13,15,16,12],[13,15,16,14],[14,12,13],[14,12,15],[14,12,15,16],[14,13,12],[14,13,15],[14,13,15,16],[14,15,12],[14,15,13],[14,15,16,12],[14,15,16,13],[15,12,13],[15,12,14],[15,12,16],[15,13,12],[15,13,14],[15,13,16],[15,14,12],[15,14,13],[15,14,16],[15,16,12,13],[15,16,12,14],[15,16,13,12],[15,16,13,14],[15,16,14,12],[15,16,14,13],[12,13,14,15],[12,13,14,15,16],[12,13,15,14],[12,13,15,16,14],[12,14,13,15],[12,14,13,15,16],[12,14,15,13],[12,14,15,16,13],[12,15,13,14],[12,15,13,16],[12,15,14,13],[12,15,14,16],[12,15,16,13,14],[12,15,16,14,13],[13,12,14,15],[13,12,14,15,16],[13,12,15,14],[13,12,15,16,14],[13,14,12,15],[13,14,12,15,16],[13,14,15,12],[13,14,15,16,12],[13,15,12,14],[13,15,12,16],[13,15,14,12],[13,15,14,16],[13,15,16,12,14],[13,15,16,14,12],[14,12,13,15],[14,12,13,15,16],[14,12,15,13],[14,12,15,16,13],[14,13,12,15],[14,13,12,15,16],[14,13,15,12],[14,13,15,16,12],[14,15,12,13],[14,15,12,16],[14,15,13,12],[14,15,13,16],[14,15,16,12,13],[14,15,16,13,12],[15,12,13,14],[15,12,13,16],[15,12,14,13],[15,12,14,16],[15,12,16,13],[15,12,16,14],[15,13,12,14],[15,13,12,16],[15,13,14,12],[15,13,14,16],[15,13,16,12],[15,13,16,14],[15,14,12,13],[15,14,12,16],[15,14,13,12],[15,14,13,16],[15,14,16,12],[15,14,16,13],[15,16,12,13,14],[15,16,12,14,13],[15,16,13,12,14],[15,16,13,14,12],[15,16,14,12,13],[15,16,14,13,12],[12,13,15,14,16],[12,14,15,13,16],[12,15,13,14,16],[12,15,13,16,14],[12,15,14,13,16],[12,15,14,16,13],[13,12,15,14,16],[13,14,15,12,16],[13,15,12,14,16],[13,15,12,16,14],[13,15,14,12,16],[13,15,14,16,12],[14,12,15,13,16],[14,13,15,12,16],[14,15,12,13,16],[14,15,12,16,13],[14,15,13,12,16],[14,15,13,16,12],[15,12,13,14,16],[15,12,13,16,14],[15,12,14,13,16],[15,12,14,16,13],[15,12,16,13,14],[15,12,16,14,13],[15,13,12,14,16],[15,13,12,16,14],[15,13,14,12,16],[15,13,14,16,12],[15,13,16,12,14],[15,13,16,14,12],[15,14,12,13,16],[15,14,12,16,13],[15,14,13,12,16],[15,14,13,16,12],[15,14,16,12,13],[15,14,16,13,12]]
theorem C2:∀T∈Ts,∀t∈[12,13,14,15,16],iX T t∈Ts:=by decide+kernel
theorem Ia(n:Sf)(bx:R5 AV)(ck mv:HE)(ls:R5 Ln):(Ts.map λT=>(So 17).map λt=>(ev P<|n+60).f 31 [.ref 8,.tup<|ei t] (hp bx ck mv<|jo ls<|ak T))=
  (Ts.map λT=>(So 17).map λt=>KX (.int<|cR t<|ak<|iX T t,hp bx ck mv<|jo ls<|ak<|iX T t)):=by kernel_rfl
end
noncomputable section
noncomputable def bw(k:Sf):Nat:=([1,1,1,2,2,3,12,13,4,10,11,14,5,15,16,7,7,2,0,6,8,9]:R5 Sf).getD k 0
noncomputable def dZ(k:Sf):Bool:=([1,2,3,4,16]:R5 Sf).contains k
def near(M:R5 Sf)(t:Sf):Nat:=if M.contains t then t else match gQ t with
 |some p=>if M.contains p then p else(gQ p).getD p
 |none=>t
def fQ(T:R5 Sf)(k:Sf):Bool:= !dZ k&&(ak T).contains (bw k)
noncomputable def BR:R5 MS:=[.as 4 (.aW .len [(.v 3)]),.wh (.cmp .Hu (.tup [(.v 2),(.kH (.v 3)<|.v 4)])<|.aL (.v 0) 20) [.aug 4 (.c<|.int 1)],.ret<|.idx (.aL (.v 0) 20)<|.tup [(.v 2),(.kH (.v 3)<|.v 4)]]
def dy(T:R5 Sf)(t:Sf):Nat:=cR (near (ak T) t)<|ak T
theorem vK{α β:Type}{l:R5 α}{f g:α->β}(k:Sf)(h1:(l.take k).map f=(l.take k).map g)(h2:(l.drop k).map f=(l.drop k).map g):l.map f=l.map g:=by rw[←Ut k l,S3,S3,h1,h2]
theorem N3(n:Sf)(bx:R5 AV)(ck mv:HE)(ls:R5 Ln)(lots:R5 (SK×AV))(x:SV):((Ts.take 60).map λT=>(So 17).map λt=>outF<|bO (ev P<|n+40) BR [.fr (.ref 8),x,.fr<|(ei t).getD 0 .none,.fr<|(ei t).getD 1 .none,.un,.un] (hp bx ck mv<|ba ls (ak T) lots))=
  ((Ts.take 60).map λT=>(So 17).map λt=>KX (.int<|dy T t,hp bx ck mv<|ba ls (ak T) lots)):=by kernel_rfl
theorem Nc(n:Sf)(bx:R5 AV)(ck mv:HE)(ls:R5 Ln)(lots:R5 (SK×AV))(x:SV):(((Ts.drop 60).take 60).map λT=>(So 17).map λt=>outF<|bO (ev P<|n+40) BR [.fr (.ref 8),x,.fr<|(ei t).getD 0 .none,.fr<|(ei t).getD 1 .none,.un,.un] (hp bx ck mv<|ba ls (ak T) lots))=
  (((Ts.drop 60).take 60).map λT=>(So 17).map λt=>KX (.int<|dy T t,hp bx ck mv<|ba ls (ak T) lots)):=by kernel_rfl
theorem NJ(n:Sf)(bx:R5 AV)(ck mv:HE)(ls:R5 Ln)(lots:R5 (SK×AV))(x:SV):(((Ts.drop 60).drop 60).map λT=>(So 17).map λt=>outF<|bO (ev P<|n+40) BR [.fr (.ref 8),x,.fr<|(ei t).getD 0 .none,.fr<|(ei t).getD 1 .none,.un,.un] (hp bx ck mv<|ba ls (ak T) lots))=
  (((Ts.drop 60).drop 60).map λT=>(So 17).map λt=>KX (.int<|dy T t,hp bx ck mv<|ba ls (ak T) lots)):=by kernel_rfl
theorem Jq(n:Sf)(bx:R5 AV)(ck mv:HE)(ls:R5 Ln)(lots:R5 (SK×AV))(x:SV):(Ts.map λT=>(So 17).map λt=>outF<|bO (ev P<|n+40) BR [.fr (.ref 8),x,.fr<|(ei t).getD 0 .none,.fr<|(ei t).getD 1 .none,.un,.un] (hp bx ck mv<|ba ls (ak T) lots))=
  (Ts.map λT=>(So 17).map λt=>KX (.int<|dy T t,hp bx ck mv<|ba ls (ak T) lots)):=vK 60 (N3 n bx ck mv ls lots x)<|vK 60 (Nc n bx ck mv ls lots x)<|NJ n bx ck mv ls lots x
theorem ET:(Ts.map λT=>(So 17).map λt=>bX (ei t)<|nums<|ak T)=(Ts.map λT=>(So 17).map λt=>if(ak T).contains t then KX (.int<|cR t<|ak T) else Sd):=by kernel_rfl
theorem Ek(n:Sf)(bx:R5 AV)(ck mv:HE)(ls:R5 Ln)(a b c d e:SV):((So 22).map λk=>(ev P<|n+60).f 34 [.ref 8,(aO k).pl] (hp bx ck mv<|il ls a b c d e))=
  ((So 22).map λk=>KX (.bool<|dZ k,hp bx ck mv<|il ls a b c d e)):=by kernel_rfl
theorem IL(n:Sf)(bx:R5 AV)(ck mv:HE)(ls:R5 Ln)(a b c d e:SV):((So 22).map λk=>(ev P<|n+60).f 33 [.ref 8,(aO k).pl] (hp bx ck mv<|il ls a b c d e))=
  ((So 22).map λk=>KX (.tup<|ei<|bw k,hp bx ck mv<|il ls a b c d e)):=by kernel_rfl
theorem bA{α β:Type}{l:R5 α}{f g:α->β}(h:l.map f=l.map g){a:α}(ha:a∈l):f a=g a:=List.map_inj_left.mp h a ha
variable{n:Sf}{bx:R5 AV}{ck mv:HE}{ls:R5 Ln}{lots:R5 (SK×AV)}{T:R5 Sf}{k:Sf}
theorem uh(n:Sf){a b c d e:SV}(hk:k<22):(ev P<|n+60).f 34 [.ref 8,(aO k).pl] (hp bx ck mv<|il ls a b c d e)=KX (.bool<|dZ k,hp bx ck mv<|il ls a b c d e):=
 bA (Ek n bx ck mv ls a b c d e) (List.mem_range.mpr hk)
theorem lP(n:Sf){a b c d e:SV}(hk:k<22):(ev P<|n+60).f 33 [.ref 8,(aO k).pl] (hp bx ck mv<|il ls a b c d e)=KX (.tup<|ei<|bw k,hp bx ck mv<|il ls a b c d e):=
 bA (IL n bx ck mv ls a b c d e) (List.mem_range.mpr hk)
theorem G5(n:Sf){t:Sf}(hT:T∈Ts)(ht:t<17):(ev P<|n+60).f 31 [.ref 8,.tup<|ei t] (hp bx ck mv<|jo ls<|ak T)=KX (.int<|cR t<|ak<|iX T t,hp bx ck mv<|jo ls<|ak<|iX T t):=
 bA (bA (Ia n bx ck mv ls) hT) (List.mem_range.mpr ht)
def kE(M:R5 Sf):R5 (R5 Sf):=M.map λt=>((mO 0 M).filter λp=>gQ p.1==KX t).map (·.2)
noncomputable def Pb(ks:R5 (R5 Sf)):Sf->R5 Sf->R5 Sf->R5 Sf
 |0,_,f=>f
 |k+1,left,f=>match left.getLast? with
  |none=>f
  |some h=>Pb ks k (left.dropLast++ks.getD h [])<|f++[h]
def A1(T:R5 Sf)(p:Sf):R5 Nat:=Pb (kE<|ak T) 20 [p] []
def bD(a b:Sf):Bool:=a==b||gQ a==KX b||(gQ a).bind gQ==KX b
def d9(T:R5 Sf)(p:Sf):R5 Nat:=((mO 0<|ak T).filter λq=>bD q.1<|(ak T).getD p 0).map (·.2)
noncomputable def aP(l:R5 Sf):R5 AV:=l.map λq:Sf=> .int q
end
noncomputable section
variable{bx:R5 AV}{ck mv:HE}{ls:R5 Ln}{lots:R5 (SK×AV)}{T:R5 Sf}{k t:Sf}
theorem NU{a b c d e:SV}:bP P (hp bx ck mv<|il ls a b c d e) (.ref 8) 23=KX 33:=rfl
theorem Rz{a b c d e:SV}:bP P (hp bx ck mv<|il ls a b c d e) (.ref 8) 25=KX 34:=rfl
theorem Qz:((So 17).map ei)=((So 17).map λt=> [(ei t).getD 0 .none,(ei t).getD 1 .none]):=by kernel_rfl
theorem mj:∀k<22,bw k<17:=by decide
theorem t8(n:Sf)(hT:T∈Ts)(hk:k<22):(ev P<|n+80).f 35 [.ref 8,(aO k).pl] (hp bx ck mv<|ba ls (ak T) lots)=KX (.int<|dy T<|bw k,hp bx ck mv<|ba ls (ak T) lots):=by
 have hc:=lP (n:=n+17) (bx:=bx) (ck:=ck) (mv:=mv) (ls:=ls) (a:=.fr<|.lst<|places<|ak T) (b:=.fr<|.lst<|parents<|ak T) (c:=.fr<|.lst<|(kids<|ak T).map .lst) (d:=.fr<|.dT<|nums<|ak T) (e:=.mI lots) hk;have ht:=mj k hk;rw[bA Qz (List.mem_range.mpr ht)] at hc;have run:=bA (bA (Jq (n+39) bx ck mv ls lots<|.fr (aO k).pl) hT)<|List.mem_range.mpr ht;rw[dE ⟨2,[],6,jt⟩ rfl rfl];refine Vm (R6 outF ?_) run;refine s1 (fl:=.nx) ?_ rfl;unfold ba
 walk_at "R|hc"
theorem Ic(hT:T∈Ts)(ht:t<17):bX (ei t) (nums<|ak T)=if(ak T).contains t then KX (.int<|cR t<|ak T) else none:=bA (bA ET hT)<|List.mem_range.mpr ht
theorem LO:((So 17).map λt=>AV.key 4<|.tup<|ei t)=(So 17).map λu0=>true:=by kernel_rfl
theorem IY:∀k<22,dZ k=Sj->[AV.int (aO k).l,AV.tup (aO k).st]=ei (bw k):=by
 intro k hk;have:((So 22).map λk=>UI (dZ k) [] [AV.int (aO k).l,AV.tup (aO k).st])=((So 22).map λk=>UI (dZ k) [] (ei<|bw k)):=by kernel_rfl
 have:=bA this<|List.mem_range.mpr hk;intro h;rw[h] at this;exact this
theorem Av(n:Sf)(hT:T∈Ts)(hk:k<22):(ev P<|n+80).f 36 [.ref 8,(aO k).pl] (hp bx ck mv<|ba ls (ak T) lots)=KX (.bool<|fQ T k,hp bx ck mv<|ba ls (ak T) lots):=by
 have hc:=λm=>uh (n:=m) (bx:=bx) (ck:=ck) (mv:=mv) (ls:=ls) (a:=.fr<|.lst<|places<|ak T) (b:=.fr<|.lst<|parents<|ak T) (c:=.fr<|.lst<|(kids<|ak T).map .lst) (d:=.fr<|.dT<|nums<|ak T) (e:=.mI lots) hk;have ht:=mj k hk;unfold fQ
 cases hi:dZ k with
 |true=>
  rw[hi] at hc;unfold ba
  walk_at "C"
  unfold gX
  walk_at "R|hc _"
 |false=>
  rw[hi] at hc;have e1:dF .fi (.tup [AV.int (aO k).l,AV.tup (aO k).st]) (.dT<|nums<|ak T)=KX ((ak T).contains<|bw k):=by
   rw[IY k hk hi];show(if AV.key 4 (.tup<|ei<|bw k) then KX (bX (ei<|bw k)<|nums<|ak T).isSome else Sd)=_;rw[Sv (bA LO<|List.mem_range.mpr ht),Ic hT ht]
   cases (ak T).contains (bw k)<;>rfl
  unfold ba
  walk_at "C"
  unfold gX
  walk_at "R|hc _"
end
noncomputable section
theorem IW:(Ts.map λT=>(So (ak T).length).map λp:Sf=>gO .HF [.lst (aP<|A1 T p)])=(Ts.map λT=>(So (ak T).length).map λp:Sf=>KX<|.lst<|aP<|d9 T p):=by kernel_rfl
theorem HV:(Ts.map λT=>decide ((ak T).length<=17))=Ts.map λu0=>true:=by kernel_rfl
noncomputable def Bg(ks:R5 (R5 Sf)):Sf->R5 Sf->R5 Sf->Sh (R5 Sf)
 |0,_,_=>Sd
 |m+1,left,f=>match left.getLast? with
  |none=>KX f
  |some h=>if h<ks.length/\(ks.getD h []).length<=17 then Bg ks m (left.dropLast++ks.getD h []) (f++[h]) else Sd
theorem F2:(Ts.map λT=>(So (ak T).length).map λp:Sf=>Bg (kE<|ak T) 6 [p] [])=(Ts.map λT=>(So (ak T).length).map λp:Sf=>KX<|A1 T p):=by kernel_rfl
section
variable{n:Sf}{loc loc1:Loc}{H:Hp}{v:AV}
theorem Qc{j i:Sf}{l:R5 AV}(h:loc[i]? =KX (.ml l))(hv:l.getLast?=KX v)(hn:¬(i=j\/aw l.length=Sj))(h2:fM (loc.set i<|.ml l.dropLast) j (.fr v)=KX loc1):(ev P<|n+1).s (.pop j i) loc H=KX (.nx,loc1,H):=bj h<|bj hv<|(SI hn).trans<|map_eq h2
theorem MD{i j:Sf}{a b:R5 ME}{vs ws:R5 AV}{H1 H2:Hp}{loc2:Loc}(h1:cq (ev P n) a loc H=KX (vs,H1))(h2:cq (ev P n) b loc H1=KX (ws,H2))(h3:fM loc i (.ml vs)=KX loc1)(hn:¬i=j)(h4:fM loc1 j (.ml ws)=KX loc2):(ev P<|n+1).s (.as2 i j a b) loc H=KX (.nx,loc2,H2):=aq h1<|aq h2<|bj h3<|(SI hn).trans<|map_eq h4
end
theorem A6(l:R5 Sf):(aP l).getLast?=l.getLast?.map λh:Sf=> .int h:=by unfold aP;exact List.getLast?_map ..
theorem BI(l:R5 Sf):(aP l).dropLast=aP l.dropLast:=by unfold aP;simp[List.dropLast_eq_take,abp]
theorem vu(a b:R5 Sf):aP a++aP b=aP (a++b):=(S3 ..).symm
theorem kj(l:R5 Sf):(aP l).all (AV.plain 7)=true:=by
 rw[Yj];intro x hx;obtain ⟨k,_,rfl⟩:=List.mem_map.mp hx
 rfl
theorem IS(M:R5 Sf):(kids M).map AV.lst=(kE M).map λl=>AV.lst (aP l):=by
 unfold kids kE aP;rw[UT,UT];apply Wk;intro t _;simp
 rfl
abbrev KL:Loc->Hp->Sh (Sq×Hp):=fun(loc:R5 SV) H=>cz (loc[3]? :Sh SV) λs=>s.j6 Sd λl=>if l.all (AV.plain 7) then KX (!l.isEmpty,H) else Sd
noncomputable abbrev FE:R5 MS:=[.pop 4 3,.app 2<|.v 4,.ext 3 (.idx (.aL (.v 0) 19)<|.v 4)]
set_option tactic.hygienic true in
theorem Mh{a k m:Sf}(h:a+20*(m+1)<900)(hk:k<=17):a-1+k+20*m<900:=
 Sb (Ss (S6 (UO (XY a 1) hk)<|20*m)<|Ss (SA<|Uh a 17<|20*m)<|S2 (Ss (SA<|VT 17<|20*m)<|S2 (by decide:17<=20)<|20*m) a) h
theorem J1{n:Sf}{bx:R5 AV}{ck mv:HE}{ls:R5 Ln}{T:R5 Sf}{lots:R5 (SK×AV)}{x:SV}(hM:(ak T).length<=17):∀(m K:Sf) (left f:R5 Sf) (y:SV) (res:R5 Sf),Bg (kE<|ak T) m left f=KX res->m<=K->left.length+20*m<900->f.length+m<900->
  ∃z,m7 (ev P<|n+20) KL FE K [.fr (.ref 8),x,.ml<|aP f,.ml<|aP left,y,.un] (hp bx ck mv<|ba ls (ak T) lots)=KX (.nx,[.fr (.ref 8),x,.ml<|aP res,.ml [],z,.un],hp bx ck mv<|ba ls (ak T) lots):=by
 intro m
 induction m with
 |zero=>exact λu0 u1 u2 u3 u4 h=>au h
 |succ m ih=>
  intro K left f y res h hK hl hf
  induction K using SW with
  |zero=>exact TL hK<|ZV m
  |succ K=>
   unfold Bg at h;have et:KL [.fr (.ref 8),x,.ml<|aP f,.ml<|aP left,y,.un] (hp bx ck mv<|ba ls (ak T) lots)=KX (!(aP left).isEmpty,hp bx ck mv<|ba ls (ak T) lots):=bj rfl (Sv<|kj left)
   cases hg:left.getLast? with
   |none=>
    rw[hg] at h
    cases h
    rw[List.getLast?_eq_none_iff] at hg;subst hg;exact ⟨y,Hi _ et⟩
   |some hd=>
    rw[hg] at h;dsimp only at h
    split at h
    case isFalse=>cases h
    rename_i hc
    have ne:(aP left).isEmpty=false:=by
     cases left with
     |nil=>cases hg
     |cons _ _=>rfl
    rw[ne] at et;have e1:(aP left).getLast?=KX (.int hd):=by rw[A6,hg];rfl
    have l0:left.length<1000:=Sw (Sb (S0 _ _) hl) (by decide);have l1:aw (aP left).length=true:=aY<|Sb (SA<|Sr _) l0;have e2:¬((3:Sf)=4\/aw (aP left).length=Sj):=λz=>z.elim (λz=>nomatch z) λz=>nomatch l1.symm.trans z;have e3:aw (aP f).length=true:=aY<|Sb (SA<|Sr _)<|Sw (Sb (S0 _ _) hf) (by decide);have e4:aw (aP left).dropLast.length=true:=aY<|Sb (SA ZM)<|Sb (XY _ _)<|Sb (SA<|Sr _) l0;have e5:aw (aP<|(kE<|ak T).getD hd []).length=true:=aY<|Sb (SA<|Sr _)<|Sb hc.2 (by decide);have e6:ff (.lst<|(kids<|ak T).map .lst) (.int hd)=KX (.lst<|aP<|(kE<|ak T).getD hd []):=by
     have hkl:(kE<|ak T).length=(ak T).length:=by simp[kE]
     have hc1:=hc.1;refine uI ?_<|Si hc1<|Ss (SA hkl)<|Ss hM (by decide);rw[IS,S1,Ur,S4 hc.1]
     rfl
    have run:bO (ev P<|n+20) FE [.fr (.ref 8),x,.ml<|aP f,.ml<|aP left,y,.un] (hp bx ck mv<|ba ls (ak T) lots)=KX (.nx,[.fr (.ref 8),x,.ml<|aP f++[.int hd],.ml<|(aP left).dropLast++aP ((kE<|ak T).getD hd []),.fr<|.int hd,.un],hp bx ck mv<|ba ls (ak T) lots):=by
     walk_at "R|! Qc"
    rw[Hm _ et run,BI,vu,show aP f++[AV.int hd]=aP (f++[hd]) from by rw[←vu];rfl];exact ih K _ _ _ _ h (Xa hK) (by rw[Sy,ZM];exact Mh hl hc.2)<|Sb (SA (by rw[Sy];exact Nat.succ_add _ _)) hf
end
noncomputable section
def mx(T:R5 Sf)(p:Sf):AV:=.lst<|aP<|d9 T p
set_option tactic.hygienic true in
theorem nA{k:SK}{v:AV}{l:R5 (SK×AV)}:ez k (iF k v l)=KX v:=by
 induction l with
 |nil=>exact Sv rfl
 |cons p l ih=>
  rw[qI]
  split
  ·rename_i h;rw[jT];exact Sv h
  ·rename_i h;rw[jT,SI h];exact ih
set_option tactic.hygienic true in
theorem qM{k j:SK}{v:AV}(hj:j≠k){l:R5 (SK×AV)}:ez j (iF k v l)=ez j l:=by
 induction l with
 |nil=>exact SI<|Up hj
 |cons p l ih=>
  rw[qI,jT]
  split
  ·rename_i h
   rw[jT,SI (by rw[h];exact Up hj),SI (by rw[h];exact Up hj)]
  ·rw[jT,ih]
theorem FN{k:SK}{v:AV}{l:R5 (SK×AV)}:(iF k v l).length<=l.length+1:=by
 induction l with
 |nil=>exact SN _
 |cons p l ih=>
  rw[qI]
  split
  ·exact Tn _
  ·exact WW ih
theorem filter_lt{p q:Sf->Sq}{y:Sf}(h:∀x,q x=R8->p x=R8)(hy:p y=R8)(hn:q y=Sj):∀{l:R5 Sf},y∈l->(l.filter q).length+1<=(l.filter p).length:=by
 have le:∀l:R5 Sf,(l.filter q).length<=(l.filter p).length:=by
  intro l
  induction l with
  |nil=>exact SN _
  |cons x l ih=>
   rw[UK,UK]
   cases hq:q x with
   |true=>rw[h x hq];simpa using ih
   |false=>
    cases p x with
    |true=>simp;exact Vc ih
    |false=>simpa using ih
 intro l
 induction l with
 |nil=>exact λhm=>nomatch hm
 |cons x l ih0=>
  intro hm;rw[UK,UK]
  rcases List.mem_cons.mp hm with rfl|hm
  ·rw[hy,hn];simp;exact le l
  ·have ih:=ih0 hm
   cases hq:q x with
   |true=>rw[h x hq];simpa using ih
   |false=>
    cases p x with
    |true=>simp;lia
    |false=>simpa using ih
structure bh(T:R5 Sf)(lots:R5 (SK×AV)):Prop where
 ok:∀q v,ez q lots=KX v->∃p:Sf,q=p/\p<(ak T).length/\v=mx T p
 len:lots.length+((So 17).filter λp:Sf=>(ez p lots).isNone).length<=17
theorem bh.nil(T:R5 Sf):bh T []:=⟨λu0 u1 h=>(au h),by decide⟩
theorem bh.put{T:R5 Sf}{lots:R5 (SK×AV)}(h:bh T lots){p:Sf}(hp:p<(ak T).length)(hM:(ak T).length<=17)(hn:ez p lots=Sd):bh T (iF p (mx T p) lots) where
 ok:=λq v hv=>by
  by_cases e:q=p
  ·subst e
   rw[nA] at hv;obtain rfl:=R9 hv;exact ⟨p,rfl,hp,rfl⟩
  ·rw[qM e] at hv
   exact h.ok q v hv
 len:=by
  have h1:=h.len;have h2:=FN (k:=p) (v:=mx T p) (l:=lots);have h3:=filter_lt (p:=λp:Sf=>(ez p lots).isNone) (q:=λq:Sf=>(ez q<|iF p (mx T p) lots).isNone) (λx hx=>by
   by_cases e:(x:SK)=p
   ·rw[e,nA] at hx;exact bc hx
   ·rw[qM e] at hx;exact hx) (by rw[hn];rfl) (by rw[nA];rfl)<|List.mem_range.mpr<|Si hp hM;exact Ss (S6 h2 _) (Ss (SA ((Uh _ 1 _).trans (R6 (lots.length+·)<|VT 1 _)))<|Ss (S2 h3 _) h1)
theorem G1{T:R5 Sf}(hT:T∈Ts):(ak T).length<=17:=Sa<|bA HV hT
theorem Ly{n i:Sf}{b:R5 MS}{loc:Loc}{H:Hp}{X:Sh (Fl×Loc×Hp)}(h:m7 (ev P n) (λloc H=>cz loc[i]? λs=>s.j6 Sd λl=>if l.all (AV.plain 7) then KX (!l.isEmpty,H) else Sd) b 100 loc H=X):(ev P<|n+1).s (.whN i b) loc H=X:=h
theorem uZ{bx:R5 AV}{ck mv:HE}{ls:R5 Ln}{lots:R5 (SK×AV)}{T:R5 Sf}{p:Sf}(hT:T∈Ts)(hp:p<(ak T).length)(hl:bh T lots):
  ∃lots',bh T lots'/\∀n,(ev P<|n+80).f 37 [.ref 8,.int p] (Mine.Pl.hp bx ck mv<|ba ls (ak T) lots)=KX (mx T p,Mine.Pl.hp bx ck mv<|ba ls (ak T) lots'):=by
 have hM:=G1 hT;have ok:=(gW<|Si hp<|Ss hM (by decide)).2
 cases hq:ez p lots with
 |some v=>
  obtain ⟨p',e1,_,rfl⟩:=hl.ok _ _ hq;have e1:=Yx e1.symm;subst e1;refine ⟨lots,hl,λn=> ?_⟩;have t:((ez p' lots).isSome !=R8)=false:=by rw[hq];rfl
  walk_at "C"
  unfold iI
  walk_at "R|! Qg|! M1"
 |none=>
  refine ⟨iF p (mx T p) lots,hl.put hp hM hq,λn=> ?_⟩;have t:((ez p lots).isSome !=R8)=true:=by rw[hq];rfl
  have d:=bA (bA F2 hT)<|List.mem_range.mpr hp;have sr:gO .HF [.lst (aP<|A1 T p)]=KX (mx T p):=bA (bA IW hT)<|List.mem_range.mpr hp;have kl:aw lots.length=true:=aY<|Sb (Ss (S0 _ _) hl.len) (by decide);have pu:dR (Mine.Pl.hp bx ck mv<|ba ls (ak T) lots) 8 21 (.mI<|iF p (mx T p) lots)=KX (Mine.Pl.hp bx ck mv<|ba ls (ak T)<|iF p (mx T p) lots):=rfl;have lk:ez (p:SK) (iF p (mx T p) lots)=KX (mx T p):=nA;have wh:=λn=>J1 (n:=n) (bx:=bx) (ck:=ck) (mv:=mv) (ls:=ls) (lots:=lots) (x:=.fr<|.int p) hM 6 100 [p] [] .un _ d (by decide) (show 1+20*6<900 by decide) (show 0+6<900 by decide);obtain ⟨z,wh⟩:=wh<|n+57;have w2:(ev P<|n+78).s (.whN 3 FE) [.fr (.ref 8),.fr<|.int p,.ml [],.ml [.int p],.un,.un] (Mine.Pl.hp bx ck mv<|ba ls (ak T) lots)=KX (.nx,[.fr (.ref 8),.fr<|.int p,.ml<|aP<|A1 T p,.ml [],z,.un],Mine.Pl.hp bx ck mv<|ba ls (ak T) lots):=Ly wh
  walk_at "C"
  unfold iI
  all_goals repeat' (first|with_reducible apply Qg|with_reducible apply M1|with_reducible apply MD|with_reducible apply Qu|with_reducible exact w2|walk_at "EV"|walk_at "SIDE"|decide)
end
noncomputable section
noncomputable def hO(B:R5 Sf):R5 Int:=B.flatMap λq:Sf=> [3*(q:SK)+0,3*(q:SK)+1,3*(q:SK)+2]
noncomputable def mz(B:R5 Sf)(s:SK):R5 Int:=B.map λq:Sf=>3*(q:SK)+s
def je(T:R5 Sf)(F:R5 SK)(p:Sf)(s:SK):R5 Int:=(F.filter λk=> !(hO<|d9 T p).contains k)++mz (d9 T p) s
noncomputable abbrev wI:ME:=.bin .add (.bin .mul (.c<|.int 3)<|.v 1)<|.v 2
theorem LZ{q:Sf}(h:q<1000):cO (q:SK)=true:=(gW h).2
theorem HD{n:Sf}{loc:Loc}{H:Hp}{q:Sf}{s:SK}(h1:loc[1]? =KX (.fr<|.int q))(h2:loc[2]? =KX (.fr<|.int s))(hq:q<1000):(ev P<|n+20).e wI loc H=KX (.int<|3*(q:SK)+s,H):=by have e1:fV .mul (.int 3) (.int q)=KX (.int<|3*(q:SK)):=xX.trans<|Sv<|LZ hq;have e2:fV .add (.int<|3*(q:SK)) (.int s)=KX (.int<|3*(q:SK)+s):=rfl;exact ej (ej xc (xv h1) e1) (xv h2) e2
theorem Bb:∀l:R5 SK,intsOf (l.map .int)=KX l:=by
 intro l
 induction l with
 |nil=>
  exact rfl
 |cons x l ih=>
  exact map_eq<|ih
theorem Qo{n:Sf}{loc:Loc}{H:Hp}:abw P (ev P<|n+20) (.e<|.tup [.g 25,.g 28,.g 26]) loc H=KX ([.int 0,.int 1,.int 2],H):=by have g1:P.bW[25]? =KX (.int 0):=rfl;have g2:P.bW[28]? =KX (.int 1):=rfl;have g3:P.bW[26]? =KX (.int 2):=rfl;exact iJ (jc<|aH (xg g1)<|aH (xg g2)<|aH (xg g3) br) rfl
section
variable{r:Rec}{t t2:Tg}{elt:ME}{x v:AV}{xs ys acc acc':R5 AV}{loc loc1 loc2:Loc}{H H1 H2:Hp}{s2:Src}
theorem uA{X:Sh (R5 AV×Loc×Hp)}(h1:gm t x loc=KX loc1)(h2:r.e elt loc1 H=KX (v,H1))(h3:acc.length<1000)(h4:mw r t elt xs (acc++[v]) loc1 H1=X):mw r t elt (x::xs) acc loc H=X:=bj h1<|aq h2<|(Sv<|aY h3).trans h4
theorem Jh{X:Sh (R5 AV×Hp)}(h1:gm t x loc=KX loc1)(h2:abw P r s2 loc1 H=KX (ys,H1))(h3:mw r t2 elt ys acc loc1 H1=KX (acc',loc2,H2))(h4:jA P r t t2 s2 elt xs acc' loc2 H2=X):jA P r t t2 s2 elt (x::xs) acc loc H=X:=bj h1<|aq h2<|bj h3 h4
end
theorem QO{a b c d e f:SV}{v:AV}:gm (.n 1) v [a,b,c,d,e,f]=KX [a,.fr v,c,d,e,f]:=by kernel_rfl
theorem fE{a b c d e f:SV}{v:AV}:gm (.n 2) v [a,b,c,d,e,f]=KX [a,b,.fr v,d,e,f]:=by kernel_rfl
theorem Js{n:Sf}{a b c d e':SV}{H:Hp}{q:Sf}{acc:R5 AV}(hq:q<1000)(ha:acc.length<900):mw (ev P<|n+20) (.n 2) wI [.int 0,.int 1,.int 2] acc [a,.fr<|.int q,c,b,d,e'] H=KX (acc++[.int (3*(q:SK)+0),.int<|3*(q:SK)+1,.int<|3*(q:SK)+2],[a,.fr<|.int q,.fr<|.int 2,b,d,e'],H):=by
 have e:=λs=>HD (n:=n) (loc:=[a,.fr<|.int q,.fr<|.int s,b,d,e']) (H:=H) (q:=q) (s:=s) rfl rfl hq;refine uA fE (e 0) (by exact Si ‹_› (by decide))<|uA fE (e 1) (by rw[Sy];simp only[TC,Wg];exact Sb ‹_› (by decide))<|uA fE (e 2) (by rw[Sy,Sy];simp only[TC,Wg];exact Sb (S6 ‹_› _) (by decide)) ?_;rw[Tf,Tf]
 rfl
theorem I8{n:Sf}{H:Hp}{b d e':SV}:∀(xs:R5 Sf) (acc:R5 AV) (a x c:SV),(∀q∈xs,q<1000)->acc.length+3*xs.length<900->
  jA P (ev P<|n+20) (.n 1) (.n 2) (.e<|.tup [.g 25,.g 28,.g 26]) wI (aP xs) acc [a,x,c,b,d,e'] H=KX (acc++(hO xs).map .int,H):=by
 intro xs
 induction xs with
 |nil=>
  intro acc a x c u4 u5;rw[show hO []=[] from rfl,Zo,SP];rfl
 |cons q xs ih=>
  intro acc a x c hq hl;simp only[TC] at hl;refine Jh QO Qo (Js (hq q<|.head _) (by exact Sb (S0 _ _) ‹_›))<|(ih _ a _ _ (λq h=>hq q<|.tail _ h) (by rw[Sy];exact Sb (SA<|TP _ 3 _) hl)).trans ?_;rw[Tf]
  rfl
theorem abC:∀(M:R5 Sf) (k:Sf),(mO k M).map (·.2)=List.range' k M.length:=by
 intro M
 induction M with
 |nil=>exact λk=>rfl
 |cons x l ih=>exact λk=>R6 (k::·)<|ih<|k+1
theorem abB(T:R5 Sf)(p:Sf):List.Sublist (d9 T p) (List.range' 0 (ak T).length):=abC (ak T) 0▸List.filter_sublist.map _
theorem wZ{T:R5 Sf}{p:Sf}(hT:T∈Ts)(hp:p<(ak T).length):(d9 T p).length<=17/\∀q∈d9 T p,q<17:=
 ⟨Ss (Ss (abB T p).length_le<|SA List.length_range')<|G1 hT,λq hq=>Si (VD (List.mem_range'_1.mp<|(abB T p).subset hq).2<|SX _)<|G1 hT⟩
theorem Ri{n:Sf}{loc loc1:Loc}{H H1 H2:Hp}{cap:R5 (Sh Sf)}{t t2:Tg}{s s2:Src}{elt:ME}{xs vs:R5 AV}(h1:abw P (ev P n) s loc H=KX (xs,H1))(hc:fX loc cap=KX loc1)(h2:jA P (ev P n) t t2 s2 elt xs [] loc1 H1=KX (vs,H2)):(ev P<|n+1).e (.AX cap t s t2 s2 elt) loc H=KX (.lst vs,H2):=aq h1<|bj hc<|map_eq h2
theorem Cc{l:R5 SK}(h:l.length<100):gO .sN [.lst (l.map .int)]=KX (.aQ l):=J5.trans<|(Sv (by rw[Sr];exact Sz h)).trans (by rw[Bb];rfl)
theorem Mm{x y:R5 SK}(h1:x.length<100)(h2:y.length<100):fV .sub (.aQ x) (.aQ y)=KX (.aQ<|x.filter λk=> !y.contains k):=Dg.trans<|Sv (by rw[show fh x.length=R8 from Sz h1,show fh y.length=R8 from Sz h2];rfl)
theorem N0{x y:R5 SK}(h1:x.length<100)(h2:y.length<100):fV .or (.aQ x) (.aQ y)=KX (.aQ<|x++y):=by show(if fh x.length&&fh y.length then _ else Sd)=_;rw[show fh x.length=R8 from Sz h1,show fh y.length=R8 from Sz h2];rfl
theorem vF(B:R5 Sf):(hO B).length=3*B.length:=by
 induction B with
 |nil=>rfl
 |cons x B ih=>exact(R6 Xp TJ).trans (List.length_append.trans ((VT 3 _).trans (R6 (·+3) ih)))
theorem sg{bx:R5 AV}{ck mv:HE}{ls:R5 Ln}{lots:R5 (SK×AV)}{T:R5 Sf}{p:Sf}{F:R5 SK}{s:SK}(hT:T∈Ts)(hp:p<(ak T).length)(hl:bh T lots)(hF:F.length<100)(hs:s=0\/s=1\/s=2)
  (h26:∀pt,cT P (Mine.Pl.hp bx ck mv pt) (.ref 7) 26=KX (.ref 8)):
  ∃lots',bh T lots'/\∀n,(ev P<|n+120).f 41 [.ref 7,.aQ F,.int p,.int s] (Mine.Pl.hp bx ck mv<|ba ls (ak T) lots)=KX (.aQ<|je T F p s,Mine.Pl.hp bx ck mv<|ba ls (ak T) lots'):=by
 obtain ⟨lots',hl',hb⟩:=uZ (bx:=bx) (ck:=ck) (mv:=mv) (ls:=ls) hT hp hl;refine ⟨lots',hl',λn=> ?_⟩;obtain ⟨b1,b2⟩:=wZ hT hp;have m:bP P (Mine.Pl.hp bx ck mv<|ba ls (ak T) lots) (.ref 8) 34=KX 37:=rfl;have a:=h26<|ba ls (ak T) lots;have c:dF .eq (.int s) (.int 3)=KX false:=by rcases hs with rfl|rfl|rfl<;>rfl
 have ol:aw (aP<|d9 T p).length=true:=aY (by simp only[aP,Sr];exact Sb ‹_› (by decide));have g1:gO .sN [.lst ((hO<|d9 T p).map .int)]=KX (.aQ<|hO<|d9 T p):=Cc (by rw[vF];lia);have g2:gO .sN [.lst ((mz (d9 T p) s).map .int)]=KX (.aQ<|mz (d9 T p) s):=Cc (by simp only[mz,Sr];exact Sb ‹_› (by decide));have g3:fV .sub (.aQ F) (.aQ<|hO<|d9 T p)=KX (.aQ<|F.filter λk=> !(hO<|d9 T p).contains k):=Mm hF (by rw[vF];lia);have g4:fV .or (.aQ<|F.filter λk=> !(hO<|d9 T p).contains k) (.aQ<|mz (d9 T p) s)=KX (.aQ<|je T F p s):=N0 (Sb (Xg ..) hF) (by simp only[mz,Sr];exact Sb ‹_› (by decide));have k1:∀m H,jA P (ev P<|m+20) (.n 1) (.n 2) (.e<|.tup [.g 25,.g 28,.g 26]) wI (aP<|d9 T p) [] [.un,.un,.un,.un,.un,.un] H=KX ((hO<|d9 T p).map .int,H):=λm H=>I8 _ [] .un .un .un (λq hq=>Sw (b2 q hq) (by decide))<|Sb (SA<|SX _)<|Sb (TH 3 b1) (by decide);have k2:∀m H,eA (ev P<|m+20) (.n 1) [] wI (aP<|d9 T p) [] [.un,.un,.fr<|.int s] H=KX ((mz (d9 T p) s).map .int,H):=by
  intro m H;rw[AU (g:=λx=>match x with|.int q=> .int (3*q+s)|x=>x)]
  ·unfold aP mz
   rw[UT,UT];rfl
  ·show 1<3;decide
  ·exact Sb (SA<|(SX _).trans<|Sr _)<|Sb b1 (by decide)
  ·intro x hx
   obtain ⟨q,hq,rfl⟩:=List.mem_map.mp hx;exact HD rfl rfl (Sw (b2 q hq) (by decide))
 walk_at "C"
 unfold oK
 walk_at "R|hb _|! Ri|k1 _ _|k2 _ _"
end
noncomputable section
theorem pv{r:Rec}{a b:R5 MS}{loc loc1:Loc}{H H1:Hp}{X:Sh (Fl×Loc×Hp)}(h1:bO r a loc H=KX (.nx,loc1,H1))(h2:bO r b loc1 H1=X):bO r (a++b) loc H=X:=by
 induction a generalizing loc H with
 |nil=>exact @V0 _ _ (λq _=>qQ q (λu0 l H=>bO r b l H)=X->bO r b loc H=X) (λh=>(g7 rfl rfl).symm.trans h) _ h1<|g7 rfl h2
 |cons s a ih=>
  refine lU (λfl l H' e h=> ?_) h1;refine g7 e ?_
  cases fl with
  |nx=>exact ih h
  |ct=>exact TL h (by intro q;cases q)
  |rt v=>exact TL h (by intro q;cases q)
def ri:Ln->Sf
 |.use R8 k=>bw k
 |_=>0
def dN(ls:R5 Ln)(k:Sf):R5 Nat:=(ls.take k).foldl (λT l=>iX T<|ri l) []
theorem Oh:∀k<22,bw k=10\/bw k=11\/bw k<10\/bw k∈[12,13,14,15,16]:=by decide
theorem Gf{T:R5 Sf}{t:Sf}(hT:T∈Ts)(ht:t<12\/t∈[12,13,14,15,16]):iX T t∈Ts:=by
 rcases ht with h|h
 ·unfold iX;rw[Sv h];exact hT
 ·exact C2 T hT t h
set_option tactic.hygienic true in
theorem KW(l:Ln)(h:l.Ok):ri l<12\/ri l∈[12,13,14,15,16]:=by
 cases l with
 |use mv k=>
  cases mv with
  |false=>exact .inl (show 0<12 by decide)
  |true=>
   have hk:k<22:=Sw h (by decide);show bw k<12\/bw k∈_;exact(Oh k hk).elim (λh=> .inl<|Sb (SA h) (by decide)) λh=>h.elim (λh=> .inl<|Sb (SA h) (by decide)) λh=>h.elim (λh=> .inl<|Sw h (by decide)) λh=> .inr h
 |anew a=>exact .inl (show 0<12 by decide)
theorem dj{ls:R5 Ln}(h:∀l∈ls,l.Ok)(k:Sf):dN ls k∈Ts:=by
 have:∀(l:R5 Ln) (T:R5 Sf),(∀x∈l,x.Ok)->T∈Ts->l.foldl (λT l=>iX T<|ri l) T∈Ts:=by
  intro l
  induction l with
  |nil=>intro T _ h;exact h
  |cons x l ih=>intro T hx hT;exact ih _ (λy hy=>hx y<|.tail _ hy)<|Gf hT<|KW x<|hx x<|.head _
 exact this _ _ (λx hx=>h x<|ZL hx) (by decide+kernel)
theorem kA{ls:R5 Ln}{k:Sf}{l:Ln}(h:ls[k]? =KX l):dN ls (k+1)=iX (dN ls k) (ri l):=by
 unfold dN;rw[YU,h,XC,VM]
 rfl
variable{bx:R5 AV}{ck mv:HE}{ls:R5 Ln}
theorem Me(n:Sf):(ev P<|n+60).f 31 [.ref 8,.tup<|ei 11] (hp bx ck mv<|jo ls pg)=KX (.int 11,hp bx ck mv<|jo ls<|ak []):=by kernel_rfl
theorem MQ(n:Sf):bO (ev P<|n+80) (eG.take 8) [.fr (.ref 8),.fr<|ay ls,.fr<|.ref 2,.un,.un,.un,.un,.un,.un,.un,.un,.un,.un] (hp bx ck mv<|.inst 1 [])=KX (.nx,[.fr (.ref 8),.fr<|ay ls,.fr<|.ref 2,.fr<|.int 9,.un,.un,.un,.un,.un,.un,.un,.un,.un],hp bx ck mv<|jo ls pg):=by kernel_rfl
def mK(ls:R5 Ln):Sf->R5 Sf
 |0=>pg
 |k+1=>ak<|dN ls<|k+1
noncomputable def mC:R5 MS:=[.for (.n 5) (.e<|.aM 17 [(.v 1),(.v 4)]) [.iff (.cmp .eq (.idx (.v 5)<|.c<|.int 0)<|.c<|.str [109,111,118,101]) [.ex (.aD (.v 0) 22 [(.aD (.v 0) 23 [(.idx (.v 5)<|.c<|.int 1)])])] []],.for (.n 6) (.e<|.tup [(.aM 18 [(.v 1),(.v 4)]),(.aM 19 [(.v 1),(.v 4)])]) [.iff (.cmp .jw (.v 6)<|.c .none) [.ex (.aD (.v 0) 22 [(.aD (.v 0) 23 [(.v 6)])])] []]]
noncomputable def oJ:Ln->Sf
 |.use _ _=>8
 |.anew l=>l
theorem LV(n:Sf)(l:Ln)(h:l.Ok){a b c d e:SV}:(ev P<|n+60).f 33 [.ref 8,l.wr] (hp bx ck mv<|il ls a b c d e)=KX (.tup<|ei<|oJ l,hp bx ck mv<|il ls a b c d e):=by
 cases l with
 |use _ _=>exact lP (k:=20) n (by decide)
 |anew l=>
  simp only[Ln.Ok,Ug,S7,WK] at h
  rcases h with rfl|rfl|rfl|rfl|rfl|rfl
  ·exact lP (k:=0) n (by decide)
  ·exact lP (k:=17) n (by decide)
  ·exact lP (k:=5) n (by decide)
  ·exact lP (k:=8) n (by decide)
  ·exact lP (k:=12) n (by decide)
  ·exact lP (k:=15) n (by decide)
theorem tO(l:Ln)(h:l.Ok):oJ l<12:=by
 cases l with
 |use _ _=>show 8<12;decide
 |anew l=>
  exact Sw (K7 _ h).1 (by decide)
theorem zD(l:Ln):dF .jw l.wr .none=KX true:=by cases l<;>rfl
theorem Oq{a b c d e:SV}:bP P (hp bx ck mv<|il ls a b c d e) (.ref 8) 22=KX 31:=rfl
theorem Lz{k:Sf}{l:Ln}{M:R5 Sf}{T:R5 Sf}{x3 x5 x6 y1 y2 y3 y4 y5 y6:SV}(hl:ls[k]? =KX l)(hok:l.Ok)(hs:ls.length<900)(hT:T∈Ts)
  (hM:(∃kk,l=.use R8 kk/\∃v,∀n,(ev P<|n+60).f 31 [.ref 8,.tup<|ei<|bw kk] (hp bx ck mv<|jo ls M)=KX (v,hp bx ck mv<|jo ls<|ak T))\/((∀kk,l≠ .use R8 kk)/\M=ak T)) (n:Sf):
  bO (ev P<|n+100) mC [.fr (.ref 8),.fr<|ay ls,.fr<|.ref 2,x3,.fr<|tupI k,x5,x6,y1,y2,y3,y4,y5,y6] (hp bx ck mv<|jo ls M)=KX (.nx,[.fr (.ref 8),.fr<|ay ls,.fr<|.ref 2,x3,.fr<|tupI k,.fr l.op,.fr .none,y1,y2,y3,y4,y5,y6],hp bx ck mv<|jo ls<|ak T):=by
 have e1:=λm H=>k9 m H ls k l hl hs;have e2:=λm H=>mf m H hl hs;have e3:=λm H=>jB m H (SQ (List.getElem?_eq_some_iff.mp hl).1) hs;have c1:=λm=>LV (bx:=bx) (ck:=ck) (mv:=mv) (ls:=ls) m l hok (a:=.ml<|places<|ak T) (b:=.ml<|parents<|ak T) (c:=.hY<|kids<|ak T) (d:=.mT<|nums<|ak T) (e:=.mI []);have a1:=λm=>G5 (bx:=bx) (ck:=ck) (mv:=mv) (ls:=ls) m hT<|Sw (tO l hok) (by decide);rw[show iX T (oJ l)=T from Sv (tO l hok)] at a1;have q1:= @Oq bx ck mv ls;have q2:= @NU bx ck mv ls;have w:=zD l
 rcases hM with ⟨kk,rfl,v,hadd⟩|⟨hne,rfl⟩
 ·have c2:=λm=>lP (n:=m) (bx:=bx) (ck:=ck) (mv:=mv) (ls:=ls) (a:=.ml<|places M) (b:=.ml<|parents M) (c:=.hY<|kids M) (d:=.mT<|nums M) (e:=.mI [])<|Sw hok (by decide)
  unfold jo at hadd a1⊢;unfold mC tupI
  walk_at "R|e1 _ _|e2 _ _|e3 _ _|c1 _|c2 _|hadd _|a1 _|! vS|nD|! lh"
 ·have o3:∃u,ff l.op (.int 0)=KX u/\dF .eq u (.str [109,111,118,101])=KX false:=by
   cases l with
   |use mv kk=>
    cases mv with
    |true=>exact TL rfl (hne kk)
    |false=>exact ⟨tR,rfl,by kernel_rfl⟩
   |anew l=>exact ⟨sW,rfl,by kernel_rfl⟩
  obtain ⟨u,o1,o3⟩:=o3;unfold jo at a1⊢;unfold mC tupI
  walk_at "R|e1 _ _|e2 _ _|e3 _ _|c1 _|a1 _|! vS|nD|! lh"
end
noncomputable section
variable{bx:R5 AV}{ck mv:HE}{ls:R5 Ln}
theorem Gs{T:R5 Sf}{x3 x5 x6 y1 y2 y3 y4 y5 y6:SV}(hs:ls.length<900)(n:Sf):
  bO (ev P<|n+100) mC [.fr (.ref 8),.fr<|ay ls,.fr<|.ref 2,x3,.fr<|tupI ls.length,x5,x6,y1,y2,y3,y4,y5,y6] (hp bx ck mv<|jo ls<|ak T)=KX (.nx,[.fr (.ref 8),.fr<|ay ls,.fr<|.ref 2,x3,.fr<|tupI ls.length,x5,.fr .none,y1,y2,y3,y4,y5,y6],hp bx ck mv<|jo ls<|ak T):=by
 have e1:=λm H=>j9 m H hs;have e2:=λm H=>kX m H hs;have e3:=λm H=>jB m H (SN ls.length) hs;unfold mC tupI
 walk_at "R|e1 _ _|e2 _ _|e3 _ _|! vS|nD|! lh"
theorem Nm(M:R5 Sf)(a b c d e f g h i j k l:SV)(n:Sf):bO (ev P<|n+80) [.frA (.v 0) 17,.frA (.v 0) 18,.frA (.v 0) 19,.frA (.v 0) 20] [.fr (.ref 8),a,b,c,d,e,f,g,h,i,j,k,l] (hp bx ck mv<|jo ls M)=KX (.nx,[.fr (.ref 8),a,b,c,d,e,f,g,h,i,j,k,l],hp bx ck mv<|ba ls M []):=by kernel_rfl
structure LsOk(ls:R5 Ln):Prop where
 ok:∀l∈ls,l.Ok
 fst:ls[0]? =KX (.use R8 10)
 len:ls.length<=8
theorem tQ{k j:Sf}{x:AV}(h:(dW k)[j]? =KX x):j<k/\x=tupI j:=by
 unfold dW at h;rw[S1] at h
 by_cases hj:j<k
 ·rw[Vr hj] at h
  exact ⟨hj,(R9 h).symm⟩
 ·rw[TY (by simp;exact Nat.not_lt.mp ‹_›)] at h
  exact au h
theorem Nq(h:LsOk ls)(n:Sf){loc:Loc}(x4 x5 x6 y1 y2 y3 y4 y5 y6:SV)(hl:loc=[.fr (.ref 8),.fr<|ay ls,.fr<|.ref 2,.fr<|.int 9,x4,x5,x6,y1,y2,y3,y4,y5,y6]):
  ∃z4 z5 z6,forL (ev P<|n+100) (.n 4) mC (dW<|ls.length+1) loc (hp bx ck mv<|jo ls pg)=KX (.nx,[.fr (.ref 8),.fr<|ay ls,.fr<|.ref 2,.fr<|.int 9,z4,z5,z6,y1,y2,y3,y4,y5,y6],hp bx ck mv<|jo ls<|ak<|dN ls ls.length):=by
 have hs:ls.length<900:=Sb h.len (by decide);have hL:=(List.getElem?_eq_some_iff.mp h.fst).1;obtain ⟨loc',H',⟨⟨z4,z5,z6,rfl⟩,rfl⟩,run⟩:=l5 (t:=.n 4) (J:=λk loc H=>(∃z4 z5 z6,loc=[.fr (.ref 8),.fr<|ay ls,.fr<|.ref 2,.fr<|.int 9,z4,z5,z6,y1,y2,y3,y4,y5,y6])/\H=hp bx ck mv (jo ls<|mK ls<|min k ls.length)) (dW<|ls.length+1) 0 loc (hp bx ck mv<|jo ls pg) (λj x hx loc H hJ=>by
  obtain ⟨⟨z4,z5,z6,rfl⟩,rfl⟩:=hJ;obtain ⟨hj,rfl⟩:=tQ hx;rw[SX];refine ⟨[.fr (.ref 8),.fr<|ay ls,.fr<|.ref 2,.fr<|.int 9,.fr<|tupI j,z5,z6,y1,y2,y3,y4,y5,y6],?_⟩
  by_cases hjl:j<ls.length
  ·obtain ⟨l,hl⟩:∃l,ls[j]? =KX l:=⟨_,S4 hjl⟩
   have hok:=h.ok l<|SM hl;refine ⟨[.fr (.ref 8),.fr<|ay ls,.fr<|.ref 2,.fr<|.int 9,.fr<|tupI j,.fr l.op,.fr .none,y1,y2,y3,y4,y5,y6],_,rfl,⟨⟨_,_,_,rfl⟩,rfl⟩,.inl λm=> ?_⟩;rw[U6 (SQ ‹_›),U6 ‹_›];refine Lz hl hok hs (dj h.ok<|j+1) ?_ m
   cases j with
   |zero=>
    rw[h.fst] at hl;obtain rfl:=R9 hl;refine .inl ⟨10,rfl,.int 11,λm=> ?_⟩;rw[kA h.fst];exact Me m
   |succ j=>
    rw[kA hl]
    cases l with
    |use mvb kk=>
     cases mvb with
     |true=>exact .inl ⟨kk,rfl,_,λm=>G5 m (dj h.ok<|j+1)<|mj kk<|Sw hok (by decide)⟩
     |false=>exact .inr ⟨λu0 e=>(by cases e),rfl⟩
    |anew l=>exact .inr ⟨λu0 e=>(by cases e),rfl⟩
  ·have e:j=ls.length:=yk hj hjl
   subst e;have hmk:mK ls ls.length=ak (dN ls ls.length):=by
    cases q:ls.length with
    |zero=>lia
    |succ k=>rfl
   rw[Nat.min_self,aaR (SQ ‹_›:ls.length<=ls.length+1),hmk];refine ⟨[.fr (.ref 8),.fr<|ay ls,.fr<|.ref 2,.fr<|.int 9,.fr<|tupI ls.length,z5,.fr .none,y1,y2,y3,y4,y5,y6],_,rfl,⟨⟨_,_,_,rfl⟩,rfl⟩,.inl λm=> ?_⟩;exact Gs hs m) ⟨⟨x4,x5,x6,hl⟩,rfl⟩;refine ⟨z4,z5,z6,?_⟩;rw[run n];have hmk:mK ls ls.length=ak (dN ls ls.length):=by
  cases q:ls.length with
  |zero=>lia
  |succ k=>rfl
 rw[show(dW<|ls.length+1).length=ls.length+1 from by simp[dW],SX,aaR (by exact Tn _:ls.length<=ls.length+1),hmk]
theorem Rh(h:LsOk ls)(n:Sf):(ev P<|n+130).f 30 [.ref 8,ay ls,.ref 2] (hp bx ck mv<|.inst 1 [])=KX (.none,hp bx ck mv<|ba ls (ak<|dN ls ls.length) []):=by
 have hs:ls.length<900:=Sb h.len (by decide);obtain ⟨z4,z5,z6,r2⟩:=Nq h (n+28) .un .un .un .un .un .un .un .un .un rfl;have ol:aw (dW<|ls.length+1).length=true:=aY (by simp[dW];exact Sb ‹_› (by decide));have g:P.bW[16]? =KX (.fn 14):=rfl;have run:bO (ev P<|n+129) eG [.fr (.ref 8),.fr<|ay ls,.fr<|.ref 2,.un,.un,.un,.un,.un,.un,.un,.un,.un,.un] (hp bx ck mv<|.inst 1 [])=KX (.nx,[.fr (.ref 8),.fr<|ay ls,.fr<|.ref 2,.fr<|.int 9,z4,z5,z6,.un,.un,.un,.un,.un,.un],hp bx ck mv<|ba ls (ak<|dN ls ls.length) []):=by rw[show eG=eG.take 8++([.for (.n 4) (.e<|.aM 16 [.v 1]) mC]++[.frA (.v 0) 17,.frA (.v 0) 18,.frA (.v 0) 19,.frA (.v 0) 20]) from rfl];refine pv (MQ<|n+49)<|pv (s1 (iU (iV (cD g (aH (xv rfl) br)<|o8 (n+87) _ hs) ol) r2) rfl) ?_;exact Nm _ _ _ _ _ _ _ _ _ _ _ _ _<|n+49
 rw[dE ⟨3,[],13,eG⟩ rfl rfl];exact R6 outF run
end
noncomputable section
variable{bx:R5 AV}{ck mv:HE}{ls:R5 Ln}{lots:R5 (SK×AV)}{T:R5 Sf}
def wz(T:R5 Sf):Ln->R5 (Sf×SK)
 |.use R8 k=>(if fQ T k then [(dy T<|bw k,1)] else [])++[(8,0)]
 |l=> [(oJ l,0)]
noncomputable def jN(p:Sf×SK):AV:=.tup [.int p.1,.int p.2]
def mB(T:R5 Sf)(l:Ln):AV:=.lst<|(wz T l).map jN
noncomputable def yq:Ln->Sf
 |.use _ _=>20
 |.anew l=>([18,0,17,5,8,12,19,15,20,21]:R5 Sf).getD l 0
theorem xq(l:Ln)(h:l.Ok):yq l<22/\(aO<|yq l).pl=l.wr/\bw (yq l)=oJ l/\dZ (yq l)=false:=by
 cases l with
 |use _ _=>exact ⟨(by decide:20<22),rfl,rfl,rfl⟩
 |anew l=>
  simp only[Ln.Ok,Ug,S7,WK] at h
  rcases h with rfl|rfl|rfl|rfl|rfl|rfl<;>exact ⟨by decide,rfl,rfl,rfl⟩
theorem Km:(Ts.map λT=>(So 12).map λt=>((ak T).contains t,near (ak T) t,cR t<|ak T))=(Ts.map λu0=>(So 12).map λt=>(R8,t,t)):=by kernel_rfl
theorem td(hT:T∈Ts){t:Sf}(ht:t<12):(ak T).contains t=R8/\dy T t=t:=by have:=bA (bA Km hT)<|List.mem_range.mpr ht;simp only[Prod.mk.injEq] at this;exact ⟨this.1,by unfold dy;rw[this.2.1,this.2.2]⟩
theorem Nv(n:Sf)(hT:T∈Ts)(l:Ln)(h:l.Ok):(ev P<|n+80).f 36 [.ref 8,l.wr] (hp bx ck mv<|ba ls (ak T) lots)=KX (.bool R8,hp bx ck mv<|ba ls (ak T) lots):=by
 obtain ⟨a,b,c,d⟩:=xq l h;have:=Av (bx:=bx) (ck:=ck) (mv:=mv) (ls:=ls) (lots:=lots) n hT a;rw[b] at this;rw[this];unfold fQ;rw[d,c,(td hT<|tO l h).1]
 rfl
theorem C6(n:Sf)(hT:T∈Ts)(l:Ln)(h:l.Ok):(ev P<|n+80).f 35 [.ref 8,l.wr] (hp bx ck mv<|ba ls (ak T) lots)=KX (.int<|oJ l,hp bx ck mv<|ba ls (ak T) lots):=by obtain ⟨a,b,c,d⟩:=xq l h;have:=t8 (bx:=bx) (ck:=ck) (mv:=mv) (ls:=ls) (lots:=lots) n hT a;rw[b] at this;rw[this,c,(td hT<|tO l h).2]
def uv(ls:R5 Ln)(mv:HE):Prop:=∀bx ck pt,cT P (hp bx ck mv pt) (.ref 7) 15=KX (ay ls)/\cT P (hp bx ck mv pt) (.ref 7) 26=KX (.ref 8)
theorem RE{a b c d e:SV}:bP P (hp bx ck mv<|il ls a b c d e) (.ref 8) 35=KX 36:=rfl
theorem Rx{a b c d e:SV}:bP P (hp bx ck mv<|il ls a b c d e) (.ref 8) 33=KX 35:=rfl
theorem BF(n:Sf){k:Sf}{l:Ln}(hl:ls[k]? =KX l)(hok:l.Ok)(hs:ls.length<900)(hT:T∈Ts)(hmv:uv ls mv):
  (ev P<|n+120).f 43 [.ref 7,tupI k] (hp bx ck mv<|ba ls (ak T) lots)=KX (mB T l,hp bx ck mv<|ba ls (ak T) lots):=by
 obtain ⟨h15,h26⟩:=hmv bx ck<|ba ls (ak T) lots;have e1:=λm H=>k9 m H ls k l hl hs;have e2:=λm H=>mf m H hl hs;have e3:=λm H=>jB m H (SQ (List.getElem?_eq_some_iff.mp hl).1) hs;have e4:=λm H=>zq m H hl hs;have x1:=λm=>Nv (bx:=bx) (ck:=ck) (mv:=mv) (ls:=ls) (lots:=lots) m hT l hok;have x2:=λm=>C6 (bx:=bx) (ck:=ck) (mv:=mv) (ls:=ls) (lots:=lots) m hT l hok;unfold tupI
 cases l with
 |use mvb kk=>
  cases mvb with
  |true=>
   have kk22:kk<22:=Sw hok (by decide);have y1:=λm=>Av (bx:=bx) (ck:=ck) (mv:=mv) (ls:=ls) (lots:=lots) m hT kk22;have y2:=λm=>t8 (bx:=bx) (ck:=ck) (mv:=mv) (ls:=ls) (lots:=lots) m hT kk22
   cases hex:fQ T kk with
   |true=>
    have hd:mB T (.use R8 kk)=.lst [.tup [.int (dy T<|bw kk),.int 1],.tup [.int (oJ<|.use R8 kk),.int 0]]:=by show AV.lst (((if fQ T kk then [(dy T<|bw kk,(1:SK))] else [])++[(8,0)]).map jN)=_;rw[hex];rfl
    rw[hd]
    walk_at "C"
    unfold eF
    walk_at "R|e1 _ _|e2 _ _|e3 _ _|e4 _ _|x1 _|x2 _|y1 _|y2 _|! vS|nD|! lh"
   |false=>
    have hd:mB T (.use R8 kk)=.lst [.tup [.int (oJ<|.use R8 kk),.int 0]]:=by show AV.lst (((if fQ T kk then [(dy T<|bw kk,(1:SK))] else [])++[(8,0)]).map jN)=_;rw[hex];rfl
    rw[hd]
    walk_at "C"
    unfold eF
    walk_at "R|e1 _ _|e2 _ _|e3 _ _|e4 _ _|x1 _|x2 _|y1 _|y2 _|! vS|nD|! lh"
  |false=>
   have hd:mB T (.use Sj kk)=.lst [.tup [.int (oJ<|.use Sj kk),.int 0]]:=rfl;rw[hd]
   walk_at "C"
   unfold eF
   walk_at "R|e1 _ _|e2 _ _|e3 _ _|e4 _ _|x1 _|x2 _|! vS|nD|! lh"
 |anew a=>
  have hd:mB T (.anew a)=.lst [.tup [.int (oJ<|.anew a),.int 0]]:=rfl;rw[hd]
  walk_at "C"
  unfold eF
  walk_at "R|e1 _ _|e2 _ _|e3 _ _|e4 _ _|x1 _|x2 _|! vS|nD|! lh"
theorem yR(n:Sf)(hs:ls.length<900)(hmv:uv ls mv):
  (ev P<|n+120).f 43 [.ref 7,tupI ls.length] (hp bx ck mv<|ba ls (ak T) lots)=KX (.lst [],hp bx ck mv<|ba ls (ak T) lots):=by
 obtain ⟨h15,h26⟩:=hmv bx ck<|ba ls (ak T) lots;have e1:=λm H=>j9 m H hs;have e2:=λm H=>kX m H hs;have e3:=λm H=>jB m H (SN ls.length) hs;have e4:=λm H=>wG m H hs;unfold tupI
 walk_at "C"
 unfold eF
 walk_at "R|e1 _ _|e2 _ _|e3 _ _|e4 _ _|! vS|nD|! lh"
end
noncomputable section
theorem Fd:∀(n:Sf) (F:R5 SK),F.Nodup->(∀x∈F,0<=x/\x<n)->F.length<=n:=by
 intro n
 induction n with
 |zero=>
  intro F u1 h
  cases F with
  |nil=>exact SN _
  |cons x F=>exact TL (aau (h x<|.head _).1 (h x<|.head _).2)<|Int.lt_irrefl _
 |succ n ih=>
  intro F hn h
  by_cases hm:(n:SK)∈F
  ·have h1:=ih (F.erase n) (hn.erase _) λx hx=>by rw[hn.mem_erase_iff] at hx;exact ⟨(h x hx.2).1,Int.lt_iff_le_and_ne.mpr ⟨ZZ (h x hx.2).2,hx.1⟩⟩
   rw[List.length_erase_of_mem hm] at h1;exact Nat.sub_le_iff_le_add.mp h1
  ·have h1:=ih F hn λx hx=>by exact ⟨(h x hx).1,Int.lt_iff_le_and_ne.mpr ⟨ZZ (h x hx).2,λe=>hm<|e▸hx⟩⟩
   exact Vc ‹_›
structure lH(F:R5 SK):Prop where
 nd:F.Nodup
 lt:∀x∈F,0<=x/\x<51
theorem lH.len{F:R5 SK}(h:lH F):F.length<100:=Sb (Fd 51 F h.nd h.lt) (by decide)
theorem lH.nil:lH []:=⟨Vg,λu0 h=>by cases h⟩
theorem xN{B:R5 Sf}{q:Sf}{s:SK}(h:q∈B)(hs:s=0\/s=1\/s=2):3*(q:SK)+s∈hO B:=by
 unfold hO;rw[List.mem_flatMap];refine ⟨q,h,?_⟩
 rcases hs with rfl|rfl|rfl<;>simp
theorem lH.je{T:R5 Sf}{F:R5 SK}{p:Sf}{s:SK}(h:lH F)(hT:T∈Ts)(hp:p<(ak T).length)(hs:s=0\/s=1\/s=2):lH (je T F p s) where
 nd:=by
  unfold Mine.Pl.je;rw[aas];refine ⟨h.nd.filter _,?_,?_⟩
  ·unfold mz
   have nd:=(abB T p).nodup List.nodup_range';exact Xc _ (λa b hab e=>hab (q3 hs hs e).1) nd
  ·intro a ha b hb e
   subst e;rw[aaT] at ha;obtain ⟨q,hq,rfl⟩:=List.mem_map.mp hb;have:=xN hq hs;rw[←Tt] at this;rw[this] at ha;simp at ha
 lt:=λx hx=>by
  unfold Mine.Pl.je at hx;rw[U3] at hx
  rcases hx with hx|hx
  ·exact h.lt x (List.mem_filter.mp hx).1
  ·obtain ⟨q,hq,rfl⟩:=List.mem_map.mp hx
   obtain ⟨m,e,hm⟩:=OM hs;exact e▸⟨VE m,Int.ofNat_lt.mpr<|Sb hm<|Sb (S6 (TH 3<|Uj<|(wZ hT hp).2 q hq) 2) (by decide)⟩
theorem Fm(i j:Sf):kF [.int 0,.int i] [.int 0,.int j]=decide (i=j):=by show(decide (0=0)&&(decide ((i:SK)=j)&&R8))=_;rw[Bool.and_true,Sz rfl,abv];exact decide_eq_decide.mpr Int.ofNat_inj
theorem Ej(k:R5 AV):∀(a b:R5 (R5 AV×AV)),bX k (a++b)=match bX k a with|some v=>KX v|none=>bX k b:=by
 intro a
 induction a with
 |nil=>
  intro b;exact rfl
 |cons p a ih=>
  intro b;show(if kF p.1 k then KX p.2 else bX k (a++b))=match (if kF p.1 k then KX p.2 else bX k a) with|some v=>KX v|none=>bX k b
  split
  ·rfl
  ·exact ih b
noncomputable def cV(f:Sf->AV)(k:Sf):R5 (R5 AV×AV):=(So k).map λi:Sf=>([.int 0,.int i],f i)
theorem vO(f:Sf->AV)(k:Sf):cV f (k+1)=cV f k++[([.int 0,.int k],f k)]:=by
 unfold cV;rw[Vz,S3]
 rfl
theorem si(f:Sf->AV)(i:Sf):∀k,bX [.int 0,.int i] (cV f k)=if i<k then KX (f i) else none:=by
 intro k
 induction k with
 |zero=>
  exact rfl
 |succ k ih=>
  rw[vO,Ej,ih]
  by_cases h:i<k
  ·rw[Sv h,Sv<|UD ‹_›]
  ·rw[SI h]
   show(if kF [.int 0,.int k] [.int 0,.int i] then KX (f k) else Sd)=_;rw[Fm]
   by_cases e:k=i
   ·subst e;rw[Sv (Sz rfl),Sv (by exact SN _)]
   ·rw[SI (by simpa using e),SI λz=>(Nat.lt_succ_iff_lt_or_eq.mp z).elim h λq=>e q.symm]
set_option tactic.hygienic true in
theorem EP{k:R5 AV}{v:AV}:∀{l:R5 (R5 AV×AV)},bX k l=Sd->hG k v l=l++[(k,v)]:=by
 intro l
 induction l with
 |nil=>
  intro O;exact rfl
 |cons p l ih=>
  intro h;rw[Bx] at h
  split at h
  ·cases h
  ·rename_i hk
   rw[pX,SI hk,ih h];rfl
theorem Af(f:Sf->AV)(k:Sf):hG [.int 0,.int k] (f k) (cV f k)=cV f (k+1):=by rw[EP (by rw[si,SI<|XN _]),vO]
def gv(ls:R5 Ln)(T:R5 Sf)(i:Sf):AV:=match ls[i]? with
 |some l=>mB T l
 |none=> .lst []
def cy(ls:R5 Ln)(done:R5 (R5 AV×AV))(tl:R5 (Sf×SV)):HE:=.inst 2<|[(15,.fr<|ay ls),(26,.fr<|.ref 8),(27,.fr<|.dT done)]++tl
noncomputable def sy(tl:R5 (Sf×SV)):Prop:=tl=[]\/∃x,tl=[(29,.fr x)]
variable{bx:R5 AV}{ck pt:HE}{ls:R5 Ln}{lots:R5 (SK×AV)}{T:R5 Sf}{tl:R5 (Sf×SV)}{done:R5 (R5 AV×AV)}
theorem GL:uv ls (cy ls done tl):=λu0 u1 u2=>⟨rfl,rfl⟩
theorem Ru:cT P (hp bx ck (cy ls done tl) pt) (.ref 7) 27=KX (.dT done):=rfl
theorem F9(h:sy tl):bP P (hp bx ck (cy ls done tl) pt) (.ref 7) 32=KX 41/\bP P (hp bx ck (cy ls done tl) pt) (.ref 7) 36=KX 42/\bP P (hp bx ck (cy ls done tl) pt) (.ref 7) 39=KX 46/\bP P (hp bx ck (cy ls done tl) pt) (.ref 7) 43=KX 47/\bP P (hp bx ck (cy ls done tl) pt) (.ref 7) 45=KX 45/\bP P (hp bx ck (cy ls done tl) pt) (.ref 7) 30=KX 40/\cT P (hp bx ck (cy ls done tl) pt) (.ref 7) 31=KX (.fJ 44 7):=by
 rcases h with rfl|⟨x,rfl⟩<;>exact ⟨rfl,rfl,rfl,rfl,rfl,rfl,rfl⟩
theorem DA(i:Sf):AV.key 4 (.tup [.int 0,.int i])=true:=rfl
theorem Ad(n:Sf){i:Sf}{f:Sf->AV}{k:Sf}(hi:i<k):(ev P<|n+40).f 42 [.ref 7,tupI i] (hp bx ck (cy ls (cV f k) tl) pt)=KX (f i,hp bx ck (cy ls (cV f k) tl) pt):=by
 have e2:ff (.dT<|cV f k) (.tup [.int 0,.int i])=KX (f i):=by show(if AV.key 4 (.tup [.int 0,.int i]) then bX [.int 0,.int i] (cV f k) else Sd)=_;rw[Sv (DA i),si,Sv hi]
 unfold tupI
 walk_at "C"
 unfold pP
 walk_at "R"
end
noncomputable section
variable{bx:R5 AV}{ck:HE}{ls:R5 Ln}{lots:R5 (SK×AV)}{T:R5 Sf}{tl:R5 (Sf×SV)}
def uz(T:R5 Sf)(ds:R5 (Sf×SK)):Prop:=∀d∈ds,d.1<(ak T).length/\(d.2=0\/d.2=1\/d.2=2)
def dC(T:R5 Sf)(F:R5 SK)(ds:R5 (Sf×SK)):R5 Int:=ds.foldl (λF d=>je T F d.1 d.2) F
theorem lH.dC{F:R5 SK}(hT:T∈Ts):∀{ds:R5 (Sf×SK)},uz T ds->lH F->lH (dC T F ds):=by
 intro ds
 induction ds generalizing F with
 |nil=>intro _ h;exact h
 |cons d ds ih=>intro hd h;exact ih (λx hx=>hd x<|.tail _ hx)<|h.je hT (hd d<|.head _).1 (hd d<|.head _).2
theorem MA{f:Sf->AV}{i K:Sf}{F:R5 SK}{ds:R5 (Sf×SK)}(hT:T∈Ts)(hl:bh T lots)(htl:sy tl)(hi:i<K)(hf:f i=.lst (ds.map jN))(hd:uz T ds)(hn:ds.length<900)(hF:lH F):
  ∃lots',bh T lots'/\∀n,(ev P<|n+140).f 44 [.ref 7,.aQ F,.int 0,.int i] (hp bx ck (cy ls (cV f K) tl)<|ba ls (ak T) lots)=KX (.aQ<|dC T F ds,hp bx ck (cy ls (cV f K) tl)<|ba ls (ak T) lots'):=by
 have mm:=λpt=> @F9 bx ck pt ls tl (cV f K) htl;obtain ⟨loc',H',⟨lots',hl',rfl,hF',x4,x5,rfl⟩,run⟩:=l5 (R:=λm=>ev P<|m+138) (b:=[.as 1 (.aD (.v 0) 32 [(.v 1),(.v 4),(.v 5)])])
  (J:=λk loc H=>∃lots,bh T lots/\H=hp bx ck (cy ls (cV f K) tl) (ba ls (ak T) lots)/\lH (dC T F<|ds.take k)/\∃x4 x5,loc=[.fr (.ref 7),.fr<|.aQ<|dC T F<|ds.take k,.fr<|.int 0,.fr<|.int i,x4,x5])
  (ds.map jN) 0 [.fr (.ref 7),.fr<|.aQ F,.fr<|.int 0,.fr<|.int i,.un,.un] (hp bx ck (cy ls (cV f K) tl)<|ba ls (ak T) lots) (λj x hx loc H hJ=>by
   obtain ⟨lots,hl,rfl,hF,x4,x5,rfl⟩:=hJ;rw[SX] at hF⊢;rw[S1] at hx
   cases hj:ds[j]? with
   |none=>rw[hj] at hx;exact au hx
   |some d=>
    rw[hj] at hx;obtain rfl:=R9 hx;obtain ⟨hd1,hd2⟩:=hd d<|SM hj;obtain ⟨lots',hl',ht⟩:=sg hT hd1 hl hF.len hd2<|λpt=>(GL bx ck pt).2;have e:dC T F (ds.take<|j+1)=je T (dC T F<|ds.take j) d.1 d.2:=by unfold dC;rw[YU,hj,XC,VM];rfl
    have m32:=(mm<|ba ls (ak T) lots).1;refine ⟨[.fr (.ref 7),.fr<|.aQ<|dC T F<|ds.take j,.fr<|.int 0,.fr<|.int i,.fr<|.int d.1,.fr<|.int d.2],[.fr (.ref 7),.fr<|.aQ<|dC T F<|ds.take<|j+1,.fr<|.int 0,.fr<|.int i,.fr<|.int d.1,.fr<|.int d.2],hp bx ck (cy ls (cV f K) tl)<|ba ls (ak T) lots',by kernel_rfl,⟨lots',hl',rfl,by rw[e];exact hF.je hT hd1 hd2,_,_,rfl⟩,.inl λm=> ?_⟩;rw[e]
    walk_at "R|ht _") ⟨lots,hl,rfl,hF,.un,.un,rfl⟩;rw[Sr,SX,Yg] at*;refine ⟨lots',hl',λn=> ?_⟩;have m36:=(mm<|ba ls (ak T) lots).2.1;have dd:=λm=>Ad (bx:=bx) (ck:=ck) (pt:=ba ls (ak T) lots) (ls:=ls) (tl:=tl) m hi (f:=f);rw[hf] at dd;unfold tupI at dd;have ol:aw (ds.map jN).length=true:=aY (by rw[Sr];exact Si ‹_› (by decide));have r2:=run<|n+0
 walk_at "C"
 unfold pZ
 walk_at "R|dd _|r2"
end
noncomputable section
variable{bx:R5 AV}{ck:HE}{ls:R5 Ln}{lots:R5 (SK×AV)}{T:R5 Sf}{tl:R5 (Sf×SV)}{done:R5 (R5 AV×AV)}
noncomputable def fW(i:Sf):Int:=if 0<i/\i<=7 then 0 else 2
def gV:R5 (Sf×SK):=(So 10).map λi=>(i,fW i)
noncomputable def jM(i:Sf):Nat:=([18,0,17,5,8,12,19,15,20,21]:R5 Sf).getD i 0
theorem uT:∀i<10,jM i<22/\bw (jM i)=i:=by decide
theorem zP:∀i<10,(aO<|jM i).pl=se i []:=by
 intro i hi;have:(So 10).map (λi=>(aO<|jM i).pl)=(So 10).map (λi:Sf=>se i []):=by kernel_rfl
 exact bA this<|List.mem_range.mpr hi
theorem Jx(n:Sf){mv:HE}(hT:T∈Ts){i:Sf}(hi:i<10):(ev P<|n+80).f 35 [.ref 8,se i []] (hp bx ck mv<|ba ls (ak T) lots)=KX (.int i,hp bx ck mv<|ba ls (ak T) lots):=by obtain ⟨a,b⟩:=uT i hi;have:=t8 (bx:=bx) (ck:=ck) (mv:=mv) (ls:=ls) (lots:=lots) n hT a;rw[zP i hi,b,(td hT<|Si ‹_› (by decide)).2] at this;exact this
theorem Ov:(Ts.map λT=>decide (12<=(ak T).length))=Ts.map λu0=>true:=by kernel_rfl
theorem tD(hT:T∈Ts):12<=(ak T).length:=Sa<|bA Ov hT
theorem Mp{n:Sf}{loc:Loc}{H H1 H2 H3:Hp}{a b c:ME}{i j k:SK}(h1:(ev P n).e a loc H=KX (.int i,H1))(h2:(ev P n).e b loc H1=KX (.int j,H2))(hl:i<j)(h3:(ev P n).e c loc H2=KX (.int k,H3)):(ev P<|n+1).e (.rZ a b c) loc H=KX (.bool<|decide (j<=k),H3):=aq h1<|aq h2<|(Sv hl).trans<|aq h3 rfl
theorem LM{n:Sf}{loc:Loc}{H H1 H2:Hp}{a b c:ME}{i j:SK}(h1:(ev P n).e a loc H=KX (.int i,H1))(h2:(ev P n).e b loc H1=KX (.int j,H2))(hl:¬i<j):(ev P<|n+1).e (.rZ a b c) loc H=KX (.bool Sj,H2):=aq h1<|aq h2<|SI hl
theorem FD(n:Sf){i:Sf}{loc:Loc}{H:Hp}{mv:HE}{pt:HE}(hH:H=hp bx ck mv pt)(h0:loc[0]? =KX (.fr<|.ref 7))(h2:loc[2]? =KX (.fr<|.int i))(hmv:uv ls mv):(ev P<|n+20).e (.rZ (.c<|.int 0) (.v 2)<|.aL (.aL (.v 0) 15) 8) loc H=KX (.bool<|decide (fW i=0),H):=by
 subst hH;have a1:=(hmv bx ck pt).1;have a2:cT P (hp bx ck mv pt) (ay ls) 8=KX (.int 7):=rfl
 by_cases hi:(0:SK)<i
 ·have e:decide (fW i=0)=decide ((i:SK)<=7):=by
   unfold fW;apply decide_eq_decide.mpr
   by_cases c:0<i/\i<=7
   ·rw[Sv c]
    exact ⟨λu0=>Int.ofNat_le.mpr c.2,λu0=>rfl⟩
   ·rw[SI c]
    exact ⟨(λe=>nomatch e),λe=>TL ⟨Int.ofNat_lt.mp hi,Int.ofNat_le.mp e⟩ c⟩
  rw[e];exact Mp xc (xv h2) hi<|cH (cH (xv h0) a1) a2
 ·have e:decide (fW i=0)=false:=by unfold fW;apply Un;rw[SI λe=>hi<|Int.ofNat_lt.mpr e.1];exact λe=>nomatch e
  rw[e];exact LM xc (xv h2) hi
theorem Ii(hT:T∈Ts)(hl:bh T lots)(htl:sy tl):
  ∃lots',bh T lots'/\∀n,(ev P<|n+150).f 40 [.ref 7] (hp bx ck (cy ls done tl)<|ba ls (ak T) lots)=KX (.aQ<|dC T [] gV,hp bx ck (cy ls done tl)<|ba ls (ak T) lots'):=by
 have mm:=λpt=> @F9 bx ck pt ls tl done htl;have okp:= @GL ls tl done;have dok:uz T gV:=λd hd=>by
  obtain ⟨i,hi,rfl⟩:=List.mem_map.mp hd;have:=tD hT;have:=List.mem_range.mp hi;refine ⟨Si this<|Ss (by decide)<|tD hT,?_⟩;unfold fW
  split
  ·exact .inl rfl
  ·exact .inr<|.inr rfl
 obtain ⟨loc',H',⟨lots',hl',rfl,hF',x2,x3,rfl⟩,run⟩:=l5 (R:=λm=>ev P<|m+148) (b:=[.as 3 (.rZ (.c<|.int 0) (.v 2)<|.aL (.aL (.v 0) 15) 8),.as 1<|.aD (.v 0) 32 [(.v 1),(.aD (.aL (.v 0) 26) 33 [(.tup [(.v 2),(.tup [])])]),(.ite (.v 3) (.g 25)<|.g 26)]])
  (J:=λk loc H=>∃lots,bh T lots/\H=hp bx ck (cy ls done tl) (ba ls (ak T) lots)/\lH (dC T [] (gV.take k))/\∃x2 x3,loc=[.fr (.ref 7),.fr<|.aQ<|dC T [] (gV.take k),x2,x3,.un,.un,.un,.un,.un])
  ((So 10).map λi:Sf=>AV.int i) 0 [.fr (.ref 7),.fr<|.aQ [],.un,.un,.un,.un,.un,.un,.un] (hp bx ck (cy ls done tl)<|ba ls (ak T) lots) (λj x hx loc H hJ=>by
   obtain ⟨lots,hl,rfl,hF,x2,x3,rfl⟩:=hJ;rw[SX] at hF⊢;rw[S1] at hx
   by_cases hj:j<10
   ·rw[Vr hj] at hx
    obtain rfl:=R9 hx;have hbj:gV[j]? =KX (j,fW j):=by unfold gV;rw[S1,Vr hj];rfl
    obtain ⟨hd1,hd2⟩:=dok _<|SM hbj;obtain ⟨lots',hl',ht⟩:=sg hT hd1 hl hF.len hd2<|λpt=>(okp bx ck pt).2;have e:dC T [] (gV.take<|j+1)=je T (dC T [] (gV.take j)) j (fW j):=by unfold dC;rw[YU,hbj,XC,VM];rfl
    have m32:=(mm<|ba ls (ak T) lots).1;have nl:=λm=>Jx (bx:=bx) (ck:=ck) (ls:=ls) (lots:=lots) (mv:=cy ls done tl) m hT hj;have c3:=λm loc h0 h2=>FD m (i:=j) (loc:=loc) (H:=hp bx ck (cy ls done tl)<|ba ls (ak T) lots) rfl h0 h2 okp;refine ⟨[.fr (.ref 7),.fr<|.aQ<|dC T [] (gV.take j),.fr<|.int j,x3,.un,.un,.un,.un,.un],[.fr (.ref 7),.fr<|.aQ<|dC T [] (gV.take<|j+1),.fr<|.int j,.fr<|.bool<|decide (fW j=0),.un,.un,.un,.un,.un],hp bx ck (cy ls done tl)<|ba ls (ak T) lots',by kernel_rfl,⟨lots',hl',rfl,by rw[e];exact hF.je hT hd1 hd2,_,_,rfl⟩,.inl λm=> ?_⟩;rw[e]
    by_cases hb:fW j=0
    ·have hb2:=Sz hb
     rw[hb] at ht⊢;rw[hb] at c3 hb2
     walk_at "R|ht _|nl _|c3 _ _ rfl rfl"
    ·have hb3:fW j=2:=by rcases hd2 with h|h|h<;>first|exact TL h hb|exact h|(unfold fW at h;split at h<;>lia)
     rw[hb3] at ht⊢;rw[hb3] at c3
     walk_at "R|ht _|nl _|c3 _ _ rfl rfl"
   ·rw[TY (by simp;exact Nat.not_lt.mp ‹_›)] at hx
    exact au hx) ⟨lots,hl,rfl,lH.nil,.un,.un,rfl⟩;refine ⟨lots',hl',λn=> ?_⟩;have e10:((So 10).map λi:Sf=>AV.int i).length=10:=by simp
 rw[e10] at run;have et:gV.take (0+10)=gV:=by decide
 rw[et] at run;have a15:=(okp bx ck<|ba ls (ak T) lots).1;have a9:cT P (hp bx ck (cy ls done tl)<|ba ls (ak T) lots) (ay ls) 9=KX ja:=rfl;have bl:gO .len [ja]=KX (.int 10):=by kernel_rfl
 have rr:abw P (ev P<|n+148) (.rng<|.aW .len [.aL (.aL (.v 0) 15) 9]) [.fr (.ref 7),.fr<|.aQ [],.un,.un,.un,.un,.un,.un,.un] (hp bx ck (cy ls done tl)<|ba ls (ak T) lots)=KX ((So 10).map λi:Sf=>AV.int i,hp bx ck (cy ls done tl)<|ba ls (ak T) lots):=by rw[←jP 10];exact BG (eM (aH (cH (cH (xv rfl) a15) a9) br) bl)<|gW (by decide)
 have r2:=run n
 walk_at "C"
 unfold pR
 walk_at "R|rr|r2"
end
noncomputable section
variable{bx:R5 AV}{ck:HE}{ls:R5 Ln}{lots:R5 (SK×AV)}{T:R5 Sf}{tl:R5 (Sf×SV)}
def kh(ls:R5 Ln)(T:R5 Sf)(i:Sf):R5 (Sf×SK):=match ls[i]? with
 |some l=>wz T l
 |none=> []
def bT(ls:R5 Ln)(T:R5 Sf)(k:Sf):R5 Int:=(So k).foldl (λF i=>dC T F<|kh ls T i)<|dC T [] gV
theorem oS(k:Sf):bT ls T (k+1)=dC T (bT ls T k) (kh ls T k):=by unfold bT;rw[Vz,VM];rfl
theorem xG(i:Sf):gv ls T i=.lst ((kh ls T i).map jN):=by
 unfold gv kh
 cases ls[i]? <;>rfl
theorem Bz:(Ts.map λT=>(So 17).map λt=>decide (dy T t<(ak T).length))=(Ts.map λu0=>(So 17).map λu0=>R8):=by kernel_rfl
theorem tJ(hT:T∈Ts){t:Sf}(ht:t<17):dy T t<(ak T).length:=Sa<|bA (bA Bz hT)<|List.mem_range.mpr ht
theorem rn(hT:T∈Ts)(h:LsOk ls)(i:Sf):uz T (kh ls T i)/\(kh ls T i).length<=2:=by
 unfold kh
 cases hi:ls[i]? with
 |none=>exact ⟨λu0 h=>(by cases h),by show 0<=2;decide⟩
 |some l=>
  have hok:=h.ok l<|SM hi;have h12:=tD hT;have hw:=tO l hok
  cases l with
  |use mvb k=>
   cases mvb with
   |true=>
    show uz T ((if fQ T k then [(dy T<|bw k,1)] else [])++[(8,0)])/\((if fQ T k then [(dy T<|bw k,(1:SK))] else [])++[(8,0)]).length<=2;have hn:=tJ hT<|mj k<|Sw hok (by decide)
    cases fQ T k with
    |true=>
     refine ⟨λd hd=> ?_,by simp⟩;simp only[if_true,List.cons_append,Ua,Ug,S7,WK] at hd
     rcases hd with rfl|rfl
     ·exact ⟨hn,.inr<|.inl rfl⟩
     ·exact ⟨by show 8<_;exact Si ‹_› ‹_›,.inl rfl⟩
    |false=>
     refine ⟨λd hd=> ?_,by simp⟩;simp only[Z8,if_false,Ua,Ug,S7,WK] at hd;subst hd;exact ⟨by show 8<_;exact Si ‹_› ‹_›,.inl rfl⟩
   |false=>
    refine ⟨λd hd=> ?_,by show 1<=2;decide⟩;have hd:d∈[(8,0)]:=hd;simp only[Ug,S7,WK] at hd;subst hd;exact ⟨by show 8<_;exact Si ‹_› ‹_›,.inl rfl⟩
  |anew a=>
   refine ⟨λd hd=> ?_,by show 1<=2;decide⟩;have hd:d∈[(a,0)]:=hd;simp only[Ug,S7,WK] at hd;subst hd;exact ⟨by show a<_;exact Si ‹_› ‹_›,.inl rfl⟩
theorem I4(hT:T∈Ts):uz T gV:=λd hd=>by
 obtain ⟨i,hi,rfl⟩:=List.mem_map.mp hd;have:=tD hT;have:=List.mem_range.mp hi;refine ⟨Si this<|Ss (by decide)<|tD hT,?_⟩;unfold fW
 split
 ·exact .inl rfl
 ·exact .inr<|.inr rfl
theorem oX:bT ls T 0=dC T [] gV:=by unfold bT;rw[List.range_zero,List.foldl_nil]
theorem xV(hT:T∈Ts)(h:LsOk ls):∀k,lH (bT ls T k):=by
 intro k
 induction k with
 |zero=>
  rw[oX];exact lH.nil.dC hT<|I4 hT
 |succ k ih=>
  rw[oS];exact(ih).dC hT (rn hT h k).1
abbrev dA(ls:R5 Ln)(T:R5 Sf):R5 (R5 AV×AV):=cV (gv ls T)<|ls.length+1
theorem Dj(hT:T∈Ts)(h:LsOk ls)(hl:bh T lots)(htl:sy tl){k:Sf}(hk:k<ls.length+1):
  ∃lots',bh T lots'/\∀n,(ev P<|n+140).f 44 [.ref 7,.aQ<|bT ls T k,.int 0,.int k] (hp bx ck (cy ls (dA ls T) tl)<|ba ls (ak T) lots)=KX (.aQ<|bT ls T<|k+1,hp bx ck (cy ls (dA ls T) tl)<|ba ls (ak T) lots'):=by rw[oS];exact MA hT hl htl hk (xG k) (rn hT h k).1 (Sb (rn hT h k).2 (by decide))<|xV hT h k
theorem DR(n:Sf){loc:Loc}{H:Hp}{j:Sf}{b:Sf}(hs:ls.length<900)(h0:loc[j]? =KX (.fr<|ay ls))(hb:loc[b]? =KX (.fr<|.int 0)):
  abw P (ev P<|n+20) (.rng<|.bin .add (.aW .len [(.idx (.idx (.aL (.v j) 10)<|.v b)<|.c<|.int 0)])<|.c<|.int 1) loc H=KX ((So<|ls.length+1).map λi:Sf=>AV.int i,H):=by
 rw[←jP (ls.length+1)];have e5:gO .len [.lst (ls.map Ln.st)]=KX (.int ls.length):=by rw[lV (by rw[Sr];exact Si ‹_› (by decide)),Sr]
 have e6:fV .add (.int ls.length) (.int 1)=KX (.int<|(ls.length+1)):=rfl;have a1:cT P H (ay ls) 10=KX (ke ls):=rfl;have i1:ff (ke ls) (.int 0)=KX (.lst [.lst (ls.map Ln.st),.tup [om]]):=rfl;have i2:ff (.lst [.lst (ls.map Ln.st),.tup [om]]) (.int 0)=KX (.lst<|ls.map Ln.st):=rfl;exact BG (ej (eM (aH (g9 (g9 (cH (xv h0) a1) (xv hb) i1) xc i2) br) e5) xc e6)<|gW<|Sb ‹_› (by decide)
theorem Cn(hT:T∈Ts)(h:LsOk ls)(hl:bh T lots)(htl:sy tl):
  ∃lots',bh T lots'/\∀n,(ev P<|n+160).f 22 [ay ls,.aQ<|bT ls T 0,.int 0,.fJ 44 7] (hp bx ck (cy ls (dA ls T) tl)<|ba ls (ak T) lots)=KX (.aQ<|bT ls T<|ls.length+1,hp bx ck (cy ls (dA ls T) tl)<|ba ls (ak T) lots'):=by
 have hs:ls.length<900:=Sb h.len (by decide);obtain ⟨loc',H',⟨lots',hl',rfl,x4,rfl⟩,run⟩:=l5 (R:=λm=>ev P<|m+158) (b:=[.as 1 (.lO 3 [(.v 1),(.v 2),(.v 4)])])
  (J:=λk loc H=>∃lots,bh T lots/\H=hp bx ck (cy ls (dA ls T) tl) (ba ls (ak T) lots)/\∃x4,loc=[.fr (ay ls),.fr<|.aQ<|bT ls T k,.fr<|.int 0,.fr<|.fJ 44 7,x4,.un,.un])
  ((So<|ls.length+1).map λi:Sf=>AV.int i) 0 [.fr (ay ls),.fr<|.aQ<|bT ls T 0,.fr<|.int 0,.fr<|.fJ 44 7,.un,.un,.un] (hp bx ck (cy ls (dA ls T) tl)<|ba ls (ak T) lots) (λj x hx loc H hJ=>by
   obtain ⟨lots,hl,rfl,x4,rfl⟩:=hJ;rw[SX];rw[S1] at hx
   by_cases hj:j<ls.length+1
   ·rw[Vr hj] at hx
    obtain rfl:=R9 hx;obtain ⟨lots',hl',ht⟩:=Dj hT h hl htl hj;refine ⟨[.fr (ay ls),.fr<|.aQ<|bT ls T j,.fr<|.int 0,.fr<|.fJ 44 7,.fr<|.int j,.un,.un],[.fr (ay ls),.fr<|.aQ<|bT ls T<|j+1,.fr<|.int 0,.fr<|.fJ 44 7,.fr<|.int j,.un,.un],hp bx ck (cy ls (dA ls T) tl)<|ba ls (ak T) lots',by kernel_rfl,⟨lots',hl',rfl,_,rfl⟩,.inl λm=> ?_⟩
    walk_at "R|ht _"
   ·rw[TY (by simp;exact Nat.not_lt.mp ‹_›)] at hx
    exact au hx) ⟨lots,hl,rfl,.un,rfl⟩;refine ⟨lots',hl',λn=> ?_⟩;have e10:((So<|ls.length+1).map λi:Sf=>AV.int i).length=ls.length+1:=by simp
 rw[e10,SX] at run;have r1:=DR (n+138) (loc:=[.fr (ay ls),.fr<|.aQ<|bT ls T 0,.fr<|.int 0,.fr<|.fJ 44 7,.un,.un,.un]) (H:=hp bx ck (cy ls (dA ls T) tl)<|ba ls (ak T) lots) (j:=0) (b:=2) hs rfl rfl;have r2:=run n
 walk_at "C"
 unfold vW
 walk_at "R|r1|r2"
end
noncomputable section
variable{bx:R5 AV}{ck:HE}{ls:R5 Ln}{lots:R5 (SK×AV)}{T:R5 Sf}{tl:R5 (Sf×SV)}
section
variable{n:Sf}{loc loc1 loc2:Loc}{H H1 H2:Hp}{v:AV}{r:Rec}{b:R5 MS}{test:Loc->Hp->Sh (Sq×Hp)}{k:Sf}{X:Sh (Fl×Loc×Hp)}
theorem Rc(ht:test loc H=KX (R8,H1))(hb:bO r b loc H1=KX (.nx,loc2,H2))(hc:m7 r test b k loc2 H2=X):m7 r test b (k+1) loc H=X:=(Hm r ht hb).trans hc
theorem Rr(ht:test loc H=KX (Sj,H1)):m7 r test b (k+1) loc H=KX (.nx,loc,H1):=Hi r ht
theorem RP{i:Sf}{kk e:ME}{l l':R5 (R5 AV×AV)}{key:R5 AV}(h1:(ev P n).e e loc H=KX (v,H1))(h2:(ev P n).e kk loc H1=KX (.tup key,H2))(hl:loc[i]? =KX (.mT l))(hk:AV.key 4 (.tup key)=R8)(ho:aw l.length=R8)(hp:hG key v l=l'):(ev P<|n+1).s (.stD i kk e) loc H=KX (.nx,loc.set i<|.mT l',H2):=hp▸aq h1 (aq h2<|bj hl<|Sv (by rw[hk,ho];rfl))
theorem Qj{i:Sf}{kk e:ME}{l:R5 AV}{j:SK}(h1:(ev P n).e e loc H=KX (v,H1))(h2:(ev P n).e kk loc H1=KX (.int j,H2))(hl:loc[i]? =KX (.ml l))(hj:0<=j/\j.toNat<l.length/\l.length<2000):(ev P<|n+1).s (.stL i kk e) loc H=KX (.nx,loc.set i<|.ml<|l.set j.toNat v,H2):=aq h1<|aq h2<|bj hl<|Sv hj
theorem NN{i:Sf}{a nn:ME}(h1:(ev P n).e a loc H=KX (v,H1))(h2:(ev P n).e nn loc H1=KX (.int 1,H2))(h3:fM loc i (.ml [v])=KX loc1):(ev P<|n+1).s (.asR i a nn) loc H=KX (.nx,loc1,H2):=aq h1<|aq h2<|map_eq h3
theorem MT{j i:Sf}(h:loc[i]? =KX (.ml [v]))(hn:¬(i=j\/aw 1=Sj))(h2:fM (loc.set i<|.ml []) j (.fr v)=KX loc1):(ev P<|n+1).s (.pop j i) loc H=KX (.nx,loc1,H):=Qc h rfl hn h2
theorem RN{i:Sf}(h3:fM loc i (.mT [])=KX loc1):(ev P<|n+1).s (.asD i) loc H=KX (.nx,loc1,H):=map_eq h3
end
theorem Mf(n:Sf)(H:Hp):(ev P<|n+40).f 15 [.tup [om]] H=KX (.lst [],H):=by kernel_rfl
theorem J7(hT:T∈Ts)(h:LsOk ls)(hl:bh T lots)(htl:sy tl):
  ∃lots',bh T lots'/\∀n,(ev P<|n+200).f 23 [ay ls,.aQ<|bT ls T 0,.fJ 44 7,.lj] (hp bx ck (cy ls (dA ls T) tl)<|ba ls (ak T) lots)=KX (.lst [.aQ (bT ls T 0)],hp bx ck (cy ls (dA ls T) tl)<|ba ls (ak T) lots'):=by
 obtain ⟨lots',hl',ht⟩:=Cn hT h hl htl;refine ⟨lots',hl',λn=> ?_⟩
 walk_at "C"
 unfold mL
 all_goals repeat' (first|with_reducible exact ht _|with_reducible exact a1 _|with_reducible exact Mf _ _|with_reducible apply NN|with_reducible apply Qj|with_reducible apply Ly|(with_reducible apply Rc (ht:=by with_unfolding_all exact rfl))|(with_reducible apply Rr (ht:=by with_unfolding_all exact rfl))|with_reducible apply MT|with_reducible apply vS|with_reducible exact nD|with_reducible apply lh|walk_at "EV"|walk_at "SIDE"|decide)
end
noncomputable section
variable{bx:R5 AV}{ck:HE}{ls:R5 Ln}{lots:R5 (SK×AV)}{T:R5 Sf}{tl:R5 (Sf×SV)}
def iQ(ls:R5 Ln)(T:R5 Sf)(i:Sf):AV:=.aQ<|bT ls T i
theorem w7(f:Sf->AV)(k:Sf):(cV f k).length=k:=by simp[cV]
theorem zm(hT:T∈Ts)(h:LsOk ls)(hl:bh T lots)(htl:sy tl):
  ∃lots',bh T lots'/\∀n,(ev P<|n+200).f 24 [ay ls,.lst [.aQ (bT ls T 0)],.fJ 44 7] (hp bx ck (cy ls (dA ls T) tl)<|ba ls (ak T) lots)=KX (.dT<|cV (iQ ls T)<|ls.length+1,hp bx ck (cy ls (dA ls T) tl)<|ba ls (ak T) lots'):=by
 have hs:ls.length<900:=Sb h.len (by decide);obtain ⟨loc',H',⟨lots',hl',rfl,x6,rfl⟩,run⟩:=l5 (R:=λm=>ev P<|m+196) (b:=[.stD 3 (.tup [(.v 4),(.v 6)]) (.v 5),.as 5<|.lO 2 [(.v 5),(.v 4),(.v 6)]])
  (J:=λk loc H=>∃lots,bh T lots/\H=hp bx ck (cy ls (dA ls T) tl) (ba ls (ak T) lots)/\∃x6,loc=[.fr (ay ls),.fr<|.lst [.aQ (bT ls T 0)],.fr<|.fJ 44 7,.mT<|cV (iQ ls T) k,.fr<|.int 0,.fr<|.aQ<|bT ls T k,x6,.un,.un])
  ((So<|ls.length+1).map λi:Sf=>AV.int i) 0 [.fr (ay ls),.fr<|.lst [.aQ (bT ls T 0)],.fr<|.fJ 44 7,.mT [],.fr<|.int 0,.fr<|.aQ<|bT ls T 0,.un,.un,.un] (hp bx ck (cy ls (dA ls T) tl)<|ba ls (ak T) lots) (λj x hx loc H hJ=>by
   obtain ⟨lots,hl,rfl,x6,rfl⟩:=hJ;rw[SX];rw[S1] at hx
   by_cases hj:j<ls.length+1
   ·rw[Vr hj] at hx
    obtain rfl:=R9 hx;obtain ⟨lots',hl',ht⟩:=Dj hT h hl htl hj;have ol:aw (cV (iQ ls T) j).length=true:=aY (by rw[w7];exact Si ‹_› (Ss ‹_› (by decide)));have pp:hG [.int 0,.int j] (AV.aQ<|bT ls T j) (cV (iQ ls T) j)=cV (iQ ls T) (j+1):=Af (iQ ls T) j;refine ⟨[.fr (ay ls),.fr<|.lst [.aQ (bT ls T 0)],.fr<|.fJ 44 7,.mT<|cV (iQ ls T) j,.fr<|.int 0,.fr<|.aQ<|bT ls T j,.fr<|.int j,.un,.un],[.fr (ay ls),.fr<|.lst [.aQ (bT ls T 0)],.fr<|.fJ 44 7,.mT<|cV (iQ ls T)<|j+1,.fr<|.int 0,.fr<|.aQ<|bT ls T<|j+1,.fr<|.int j,.un,.un],hp bx ck (cy ls (dA ls T) tl)<|ba ls (ak T) lots',by kernel_rfl,⟨lots',hl',rfl,_,rfl⟩,.inl λm=> ?_⟩
    walk_at "R|ht _|! RP"
   ·rw[TY (by simp;exact Nat.not_lt.mp ‹_›)] at hx
    exact au hx) ⟨lots,hl,rfl,.un,rfl⟩;refine ⟨lots',hl',λn=> ?_⟩;have e10:((So<|ls.length+1).map λi:Sf=>AV.int i).length=ls.length+1:=by simp
 rw[e10,SX] at run;have r1:=DR (n+176) (loc:=[.fr (ay ls),.fr<|.lst [.aQ (bT ls T 0)],.fr<|.fJ 44 7,.mT [],.fr<|.int 0,.fr<|.aQ<|bT ls T 0,.un,.un,.un]) (H:=hp bx ck (cy ls (dA ls T) tl)<|ba ls (ak T) lots) (j:=0) (b:=4) hs rfl rfl;have r2:=run n;have b1:gO .len [ke ls]=KX (.int 1):=rfl;have e11:((1:SK)<1000/\cO 1=R8):=gW (by decide)
 walk_at "C"
 unfold rP
 walk_at "R|r1|r2|a1 _|! RN|! vS|nD|! Rw|! lh"
end
noncomputable section
variable{bx:R5 AV}{ck:HE}{ls:R5 Ln}
abbrev aS(ls:R5 Ln):R5 Nat:=dN ls ls.length
def t9(ls:R5 Ln)(d:R5 (R5 AV×AV)):HE:=.inst 2 [(15,.fr<|ay ls),(26,.fr<|.ref 8),(27,.mT d)]
theorem LS{d:R5 (R5 AV×AV)}:uv ls (t9 ls d):=λu0 u1 u2=>⟨rfl,rfl⟩
theorem KZ{r:Rec}{c:Sf}{d:rO}{vs:R5 AV}{H H1:Hp}(hc:P.cls[c]? =KX d)(hv:d.value=Sj)(h:r.f d.init (.ref H.length::vs) (H++[.inst c []])=KX (.none,H1)):mF P r c vs H=KX (.ref H.length,H1):=bj hc<|aq h (by rw[hv];rfl)
def lr(ls:R5 Ln):HE:=cy ls (dA ls<|aS ls) [(29,.fr<|.dT<|cV (iQ ls<|aS ls)<|ls.length+1)]
theorem Dl(n:Sf){mv:HE}{lots:R5 (SK×AV)}(h:LsOk ls){T:R5 Sf}(hT:T∈Ts)(hmv:uv ls mv){j:Sf}(hj:j<ls.length+1):(ev P<|n+120).f 43 [.ref 7,tupI j] (hp bx ck mv<|ba ls (ak T) lots)=KX (gv ls T j,hp bx ck mv<|ba ls (ak T) lots):=by
 have hs:ls.length<900:=Sb h.len (by decide)
 by_cases hjl:j<ls.length
 ·obtain ⟨l,hl⟩:∃l,ls[j]? =KX l:=⟨_,S4 hjl⟩
  have e:gv ls T j=mB T l:=by unfold gv;rw[hl]
  rw[e];exact BF n hl (h.ok l<|SM hl) hs hT hmv
 ·have e:j=ls.length:=yk hj hjl
  subst e;have e:gv ls T ls.length=.lst []:=by unfold gv;rw[TY (SN _)]
  rw[e];exact yR n hs hmv
theorem Jg(h:LsOk ls):
  ∃lots',bh (aS ls) lots'/\∀n,(ev P<|n+220).f 39 [.ref 7,ay ls,.ref 2] [.box bx,.dead,dO,.dead,.dead,.dead,ck,.inst 2 []]=KX (.none,hp bx ck (lr ls)<|ba ls (ak<|aS ls) lots'):=by
 have hs:ls.length<900:=Sb h.len (by decide);have hT:aS ls∈Ts:=dj h.ok _;obtain ⟨l1,hl1,bg⟩:=Ii hT (.nil _)<|.inl rfl;rw[←oX] at bg;obtain ⟨l2,hl2,sv⟩:=J7 hT h hl1<|.inl rfl;obtain ⟨l3,hl3,af⟩:=zm hT h hl2<|.inl rfl;refine ⟨l3,hl3,λn=> ?_⟩;obtain ⟨loc',H',⟨rfl,x3,rfl⟩,run⟩:=l5 (R:=λm=>ev P<|m+218) (b:=[.stA (.v 0) 27 (.v 3) (.aD (.v 0) 28 [(.v 3)])])
  (J:=λk loc H=>H=hp bx ck (t9 ls<|cV (gv ls<|aS ls) k) (ba ls (ak<|aS ls) [])/\∃x3,loc=[.fr (.ref 7),.fr<|ay ls,.fr<|.ref 2,x3,.un,.un,.un,.un,.un])
  (dW<|ls.length+1) 0 [.fr (.ref 7),.fr<|ay ls,.fr<|.ref 2,.un,.un,.un,.un,.un,.un] (hp bx ck (t9 ls [])<|ba ls (ak<|aS ls) []) (λj x hx loc H hJ=>by
   obtain ⟨rfl,x3,rfl⟩:=hJ;rw[SX];obtain ⟨hj,rfl⟩:=tQ hx;have dd:=λm=>Dl (bx:=bx) (ck:=ck) (lots:=[]) m h hT (LS (d:=cV (gv ls<|aS ls) j)) hj;have ol:aw (cV (gv ls<|aS ls) j).length=true:=aY (by rw[w7];exact Si ‹_› (Ss ‹_› (by decide)));have pu:dR (hp bx ck (t9 ls<|cV (gv ls<|aS ls) j)<|ba ls (ak<|aS ls) []) 7 27 (.mT<|hG [.int 0,.int j] (gv ls (aS ls) j)<|cV (gv ls<|aS ls) j)=KX (hp bx ck (t9 ls<|cV (gv ls<|aS ls)<|j+1)<|ba ls (ak<|aS ls) []):=by rw[Af];rfl
   unfold tupI at dd⊢;refine ⟨[.fr (.ref 7),.fr<|ay ls,.fr<|.ref 2,.fr<|.tup [.int 0,.int j],.un,.un,.un,.un,.un],[.fr (.ref 7),.fr<|ay ls,.fr<|.ref 2,.fr<|.tup [.int 0,.int j],.un,.un,.un,.un,.un],hp bx ck (t9 ls<|cV (gv ls<|aS ls)<|j+1)<|ba ls (ak<|aS ls) [],by kernel_rfl,⟨rfl,_,rfl⟩,.inl λm=> ?_⟩
   walk_at "R|dd _|! RW") ⟨rfl,.un,rfl⟩;rw[show(dW<|ls.length+1).length=ls.length+1 from by simp[dW],SX] at run;have g21:P.bW[21]? =KX (.cls 1):=rfl;have g16:P.bW[16]? =KX (.fn 14):=rfl;have ol:aw (dW<|ls.length+1).length=true:=aY (by simp[dW];exact Sb ‹_› (by decide));have p15:fu P [.box bx,.dead,dO,.dead,.dead,.dead,ck,.inst 2 []] 7 15 (.fr<|ay ls)=KX [.box bx,.dead,dO,.dead,.dead,.dead,ck,.inst 2 [(15,.fr<|ay ls)]]:=rfl;have mk:∀m,mF P (ev P<|m+130) 1 [ay ls,.ref 2] [.box bx,.dead,dO,.dead,.dead,.dead,ck,.inst 2 [(15,.fr<|ay ls)]]=KX (.ref 8,hp bx ck (.inst 2 [(15,.fr<|ay ls)])<|ba ls (ak<|aS ls) []):=λm=>KZ rfl rfl (Rh h m);have p26:fu P (hp bx ck (.inst 2 [(15,.fr<|ay ls)])<|ba ls (ak<|aS ls) []) 7 26 (.fr<|.ref 8)=KX (hp bx ck (.inst 2 [(15,.fr<|ay ls),(26,.fr<|.ref 8)])<|ba ls (ak<|aS ls) []):=rfl;have p27:fu P (hp bx ck (.inst 2 [(15,.fr<|ay ls),(26,.fr<|.ref 8)])<|ba ls (ak<|aS ls) []) 7 27 (.mT [])=KX (hp bx ck (t9 ls [])<|ba ls (ak<|aS ls) []):=rfl;have m27:cK P (hp bx ck (t9 ls<|dA ls<|aS ls)<|ba ls (ak<|aS ls) []) 7 27=KX (.mT<|dA ls<|aS ls):=rfl;have f27:dR (hp bx ck (t9 ls<|dA ls<|aS ls)<|ba ls (ak<|aS ls) []) 7 27 (.fr<|.dT<|dA ls<|aS ls)=KX (hp bx ck (cy ls (dA ls<|aS ls) [])<|ba ls (ak<|aS ls) []):=rfl;have p29:fu P (hp bx ck (cy ls (dA ls<|aS ls) [])<|ba ls (ak<|aS ls) l3) 7 29 (.fr<|.dT<|cV (iQ ls<|aS ls)<|ls.length+1)=KX (hp bx ck (lr ls)<|ba ls (ak<|aS ls) l3):=rfl;have mm:=λpt=> @F9 bx ck pt ls [] (dA ls<|aS ls)<|.inl rfl;have lastE:∀m,(ev P<|m+210).e (.aM 22 [(.v 1),(.aM 23 [(.v 1),(.aD (.v 0) 30 []),(.aL (.v 0) 31),(.g 24)]),(.aL (.v 0) 31)]) [.fr (.ref 7),.fr<|ay ls,.fr<|.ref 2,x3,.un,.un,.un,.un,.un] (hp bx ck (cy ls (dA ls<|aS ls) [])<|ba ls (ak<|aS ls) [])=KX (.dT<|cV (iQ ls<|aS ls)<|ls.length+1,hp bx ck (cy ls (dA ls<|aS ls) [])<|ba ls (ak<|aS ls) l3):=by intro m;have g22:P.bW[22]? =KX (.fn 24):=rfl;have g23:P.bW[23]? =KX (.fn 23):=rfl;have g24:P.bW[24]? =KX .lj:=rfl;exact cD g22 (aH (xv rfl)<|aH (cD g23 (aH (xv rfl)<|aH (cY (xv rfl) (mm _).2.2.2.2.2.1 br<|bg _)<|aH (cH (xv rfl) (mm _).2.2.2.2.2.2)<|aH (xg g24) br)<|sv _)<|aH (cH (xv rfl) (mm _).2.2.2.2.2.2) br)<|af _
 have all:bO (ev P<|n+219) l8 [.fr (.ref 7),.fr<|ay ls,.fr<|.ref 2,.un,.un,.un,.un,.un,.un] [.box bx,.dead,dO,.dead,.dead,.dead,ck,.inst 2 []]=KX (.nx,[.fr (.ref 7),.fr<|ay ls,.fr<|.ref 2,x3,.un,.un,.un,.un,.un],hp bx ck (lr ls)<|ba ls (ak<|aS ls) l3):=by refine s1 (sat (xv rfl) (xv rfl) p15)<|bp ?_;refine s1 (sat (t7 g21 (aH (xv rfl)<|aH (xv rfl) br)<|mk<|n+87) (xv rfl) p26)<|bp ?_;refine s1 (Qh (xv rfl) p27)<|bp ?_;refine s1 (iU (iV (cD g16 (aH (xv rfl) br)<|o8 (n+177) _ hs) ol)<|run n)<|bp ?_;refine s1 (KS (xv rfl) m27 rfl f27)<|bp ?_;exact s1 (sat (lastE<|n+8) (xv rfl) p29)<|bp s0
 rw[dE ⟨3,[],9,l8⟩ rfl rfl];exact R6 outF all
end
noncomputable section
variable{bx:R5 AV}{ls:R5 Ln}{lots:R5 (SK×AV)}{T:R5 Sf}
def E2(ls:R5 Ln)(found:R5 AV):HE:=.inst 3 [(15,.fr<|ay ls),(16,.fr<|.ref 2),(37,.fr<|.ref 7),(38,.ml found)]
def aB(bx:R5 AV)(ls:R5 Ln)(found:R5 AV)(lots:R5 (SK×AV)):Hp:=hp bx (E2 ls found) (lr ls)<|ba ls (ak<|aS ls) lots
theorem Ef(h:LsOk ls):∃lots',bh (aS ls) lots'/\∀n,(ev P<|n+240).f 48 [.ref 6,ay ls,.ref 2] [.box bx,.dead,dO,.dead,.dead,.dead,.inst 3 []]=KX (.none,aB bx ls [] lots'):=by
 obtain ⟨l,hl,mv⟩:=Jg h;refine ⟨l,hl,λn=> ?_⟩;have g30:P.bW[30]? =KX (.cls 2):=rfl;have p15:fu P [.box bx,.dead,dO,.dead,.dead,.dead,.inst 3 []] 6 15 (.fr<|ay ls)=KX [.box bx,.dead,dO,.dead,.dead,.dead,.inst 3 [(15,.fr<|ay ls)]]:=rfl;have p16:fu P [.box bx,.dead,dO,.dead,.dead,.dead,.inst 3 [(15,.fr<|ay ls)]] 6 16 (.fr<|.ref 2)=KX [.box bx,.dead,dO,.dead,.dead,.dead,.inst 3 [(15,.fr<|ay ls),(16,.fr<|.ref 2)]]:=rfl;have mk:∀m,mF P (ev P<|m+220) 2 [ay ls,.ref 2] [.box bx,.dead,dO,.dead,.dead,.dead,.inst 3 [(15,.fr<|ay ls),(16,.fr<|.ref 2)]]=KX (.ref 7,hp bx (.inst 3 [(15,.fr<|ay ls),(16,.fr<|.ref 2)]) (lr ls)<|ba ls (ak<|aS ls) l):=λm=>KZ rfl rfl (mv m);have p37:fu P (hp bx (.inst 3 [(15,.fr<|ay ls),(16,.fr<|.ref 2)]) (lr ls)<|ba ls (ak<|aS ls) l) 6 37 (.fr<|.ref 7)=KX (hp bx (.inst 3 [(15,.fr<|ay ls),(16,.fr<|.ref 2),(37,.fr<|.ref 7)]) (lr ls)<|ba ls (ak<|aS ls) l):=rfl;have p38:fu P (hp bx (.inst 3 [(15,.fr<|ay ls),(16,.fr<|.ref 2),(37,.fr<|.ref 7)]) (lr ls)<|ba ls (ak<|aS ls) l) 6 38 (.ml [])=KX (aB bx ls [] l):=rfl;have all:bO (ev P<|n+239) iu [.fr (.ref 6),.fr<|ay ls,.fr<|.ref 2,.un] [.box bx,.dead,dO,.dead,.dead,.dead,.inst 3 []]=KX (.nx,[.fr (.ref 6),.fr<|ay ls,.fr<|.ref 2,.un],aB bx ls [] l):=by refine s1 (sat (xv rfl) (xv rfl) p15)<|bp ?_;refine s1 (sat (xv rfl) (xv rfl) p16)<|bp ?_;refine s1 (sat (t7 g30 (aH (xv rfl)<|aH (xv rfl) br)<|mk<|n+17) (xv rfl) p37)<|bp ?_;exact s1 (Qd (xv rfl) p38)<|bp s0
 rw[dE ⟨3,[],4,iu⟩ rfl rfl];exact R6 outF all
variable{ck mv pt:HE}
theorem Fg(n:Sf){H:Hp}{F:R5 SK}{q:Sf}{s:SK}(hF:F.length<100)(hq:q<900)(hs:s=0\/s=1\/s=2):(ev P<|n+40).f 46 [.ref 7,.aQ F,.int q,.int s] H=KX (.bool<|F.contains<|3*(q:SK)+s,H):=by
 have e1:fV .mul (.int 3) (.int q)=KX (.int<|3*q):=by exact xX.trans<|Sv<|LZ<|Sw hq (by decide)
 have e3:dF .fi (.int<|3*q+s) (.aQ F)=KX (F.contains<|3*q+s):=by
  rw[Ed];have k1:cO (3*q+s)=true:=by obtain ⟨m,e,hm⟩:=OM hs;rw[e];have:=D7<|Sb hm<|Sb (S6 (TH 3<|SQ hq) 2) (by decide);exact Bool.and_eq_true_iff.mpr ⟨Sz this.1,Sz this.2⟩
  rw[k1,show fh F.length=R8 from Sz hF];rfl
 walk_at "C"
 unfold oa
 walk_at "R"
end
noncomputable section
variable{bx:R5 AV}{ls:R5 Ln}{lots:R5 (SK×AV)}{found:R5 AV}{k:Sf}
theorem Kw(n:Sf)(hk:k<ls.length+1):(ev P<|n+40).f 45 [.ref 7,tupI k] (aB bx ls found lots)=KX (.aQ<|bT ls (aS ls) k,aB bx ls found lots):=by
 have e:(bX [.int 0,.int k] (cV (iQ ls<|aS ls)<|ls.length+1)).getD .none=.aQ (bT ls (aS ls) k):=by rw[si,Sv hk];rfl
 walk_at "C"
 unfold sO
 walk_at "R|! RC"
def jD(T:R5 Sf)(k:Sf):R5 Nat:=if fQ T k then d9 T (dy T<|bw k) else [dy T (bw k)]
theorem J8(h:LsOk ls)(hl:bh (aS ls) lots)(hk:k<22):∃lots',bh (aS ls) lots'/\∀n,(ev P<|n+120).f 47 [.ref 7,(aO k).pl] (aB bx ls found lots)=KX (.lst<|aP<|jD (aS ls) k,aB bx ls found lots'):=by
 have hT:aS ls∈Ts:=dj h.ok _;have e1:∀m,(ev P<|m+80).f 35 [.ref 8,(aO k).pl] (aB bx ls found lots)=KX (.int<|dy (aS ls)<|bw k,aB bx ls found lots):=λm=>t8 m hT hk;have e2:∀m,(ev P<|m+80).f 36 [.ref 8,(aO k).pl] (aB bx ls found lots)=KX (.bool<|fQ (aS ls) k,aB bx ls found lots):=λm=>Av m hT hk;unfold jD
 cases hx:fQ (aS ls) k with
 |true=>
  rw[hx] at e2;obtain ⟨lots',hl',hb⟩:=uZ hT (tJ hT<|mj k hk) hl;refine ⟨lots',hl',λn=> ?_⟩;have e3:∀m,(ev P<|m+80).f 37 [.ref 8,.int<|dy (aS ls)<|bw k] (aB bx ls found lots)=KX (.lst<|aP<|d9 (aS ls)<|dy (aS ls)<|bw k,aB bx ls found lots'):=hb
  walk_at "C"
  unfold kW
  walk_at "R|e1 _|e2 _|e3 _"
 |false=>
  rw[hx] at e2;refine ⟨lots,hl,λn=> ?_⟩
  walk_at "C"
  unfold kW
  walk_at "R|e1 _|e2 _"
end
noncomputable section
variable{bx:R5 AV}{ls:R5 Ln}{lots:R5 (SK×AV)}{found:R5 AV}{k:Sf}
theorem Ir{n g:Sf}{l:R5 ME}{loc:Loc}{H H1:Hp}{kd m:R5 Sf}{x3:AV}{rs:R5 AV}(h:cq (ev P n) l loc H=KX ([.str kd,.str m,x3,.lst rs],H1))(hz:(aw (kd.length+2)&&aw m.length&&aw rs.length)=R8):(ev P<|n+1).e (.rE g l) loc H=KX (.m9 kd,H1):=aq h<|Sv hz
theorem Ih{n g:Sf}{l:R5 ME}{loc:Loc}{H H1:Hp}{kd m:R5 Sf}{x3:AV}{rs:R5 AV}(h:cq (ev P n) l loc H=KX ([.str kd,.str m,x3,.tup rs],H1))(hz:(aw (kd.length+2)&&aw m.length&&aw rs.length)=R8):(ev P<|n+1).e (.rE g l) loc H=KX (.m9 kd,H1):=aq h<|Sv hz
def wB(k:Sf):R5 Nat:=match (ev P 40).f 38 [ay [],(aO k).pl] [] with
 |some (.str s,_)=>s
 |_=> []
theorem FV(n:Sf)(ls:R5 Ln)(H:Hp):((So 22).map λk=>(ev P<|n+40).f 38 [ay ls,(aO k).pl] H)=((So 22).map λk=>KX (.str<|wB k,H)):=by kernel_rfl
theorem text_len:∀k<22,(wB k).length<100:=by decide+kernel
theorem Ga{n f:Sf}{vs vs':R5 AV}{H:Hp}(d:iO)(hd:P.fns[f]? =KX d)(ha:kq d vs=KX vs'):(ev P<|n+1).f f vs H=outF (bO (ev P n) d.body (vs'.map .fr++S9 (d.fH-d.ar) .un) H):=bj hd<|bj ha (by with_unfolding_all exact rfl)
noncomputable def rowsOf(b:Sq)(rs:R5 AV):AV:=match b with
 |true=> .lst rs
 |false=> .tup rs
def fU(j:Sf)(kd:R5 Sf):AV:=.tup [tupI j,.m9 kd]
theorem vl(n:Sf){j:Sf}{kd:R5 Sf}{b:Sq}{rs:R5 AV}(hk:k<22)(hf:found.length<900)(hkd:kd.length<100)(hrs:rs.length<900):
  bO (ev P<|n+100) fP [.fr (.ref 6),.fr<|tupI j,.fr<|.str kd,.fr (aO k).pl,.fr<|rowsOf b rs,.un,.un,.un] (aB bx ls found lots)=KX (.nx,[.fr (.ref 6),.fr<|tupI j,.fr<|.str kd,.fr (aO k).pl,.fr<|rowsOf b rs,.fr<|.int 0,.un,.un],aB bx ls (found++[fU j kd]) lots):=by
 have tx:=λm H=>bA (FV m ls H)<|List.mem_range.mpr hk;have a15:cT P (aB bx ls found lots) (.ref 6) 15=KX (ay ls):=rfl;have a11:cT P (aB bx ls found lots) (ay ls) 11=KX (.dT []):=rfl;have g32:P.bW[32]? =KX (.fn 38):=rfl;have pk:=DA j;have m38:cK P (aB bx ls found lots) 6 38=KX (.ml found):=rfl;have pu:dR (aB bx ls found lots) 6 38 (.ml<|found++[fU j kd])=KX (aB bx ls (found++[fU j kd]) lots):=rfl;have z:(aw (kd.length+2)&&aw (wB k).length&&aw rs.length)=true:=by have:=text_len k hk;rw[aY (Si (Nat.add_lt_add_right ‹_› _) (by decide)),aY<|Si ‹_› (by decide),aY<|Si ‹_› (by decide)];rfl
 refine s1 (ib (MO (cH (cH (xv rfl) a15) a11) (aH (xv rfl)<|aH xc br) pk rfl) rfl)<|bp ?_;have ol:aw found.length=true:=aY<|Si ‹_› (by decide);have ex:(ev P<|n+99).e (.tup [(.v 1),(.rE 31 [(.v 2),(.aM 32 [(.aL (.v 0) 15),(.v 3)]),(.v 5),(.v 4)])]) [.fr (.ref 6),.fr<|tupI j,.fr<|.str kd,.fr (aO k).pl,.fr<|rowsOf b rs,.fr<|.int 0,.un,.un] (aB bx ls found lots)=KX (fU j kd,aB bx ls found lots):=by
  have ct:(ev P<|n+97).e (.aM 32 [(.aL (.v 0) 15),(.v 3)]) [.fr (.ref 6),.fr<|tupI j,.fr<|.str kd,.fr (aO k).pl,.fr<|rowsOf b rs,.fr<|.int 0,.un,.un] (aB bx ls found lots)=KX (.str<|wB k,aB bx ls found lots):=cD g32 (aH (cH (xv rfl) a15)<|aH (xv rfl) br)<|tx (n+56) _;have cx:(ev P<|n+98).e (.rE 31 [(.v 2),(.aM 32 [(.aL (.v 0) 15),(.v 3)]),(.v 5),(.v 4)]) [.fr (.ref 6),.fr<|tupI j,.fr<|.str kd,.fr (aO k).pl,.fr<|rowsOf b rs,.fr<|.int 0,.un,.un] (aB bx ls found lots)=KX (.m9 kd,aB bx ls found lots):=by
   cases b with
   |true=>exact Ir (aH (xv rfl)<|aH ct<|aH (xv rfl)<|aH (xv rfl) br) z
   |false=>exact Ih (aH (xv rfl)<|aH ct<|aH (xv rfl)<|aH (xv rfl) br) z
  exact jc<|aH (xv rfl)<|aH cx br
 exact s1 (Qm (xv rfl) m38 ex m38 ol pu)<|bp s0
theorem ID(n:Sf){j:Sf}{kd:R5 Sf}{rs:R5 AV}(hk:k<22)(hf:found.length<900)(hkd:kd.length<100)(hrs:rs.length<900):
  (ev P<|n+101).f 49 [.ref 6,tupI j,.str kd,(aO k).pl,.lst rs] (aB bx ls found lots)=KX (.none,aB bx ls (found++[fU j kd]) lots):=by rw[dE ⟨5,[.tup []],8,fP⟩ rfl rfl];exact R6 outF<|vl (b:=R8) n hk hf hkd hrs
theorem Gz(n:Sf){j:Sf}{kd:R5 Sf}(hk:k<22)(hf:found.length<900)(hkd:kd.length<100):
  (ev P<|n+101).f 49 [.ref 6,tupI j,.str kd,(aO k).pl] (aB bx ls found lots)=KX (.none,aB bx ls (found++[fU j kd]) lots):=by rw[Ga ⟨5,[.tup []],8,fP⟩ rfl rfl];exact R6 outF<|vl (b:=Sj) n hk hf hkd (by decide)
end
noncomputable section
variable{bx:R5 AV}{ls:R5 Ln}{lots:R5 (SK×AV)}{found:R5 AV}
def IC(bx:R5 AV)(ls:R5 Ln)(found:R5 AV)(H:Hp):Prop:=∃lots,bh (aS ls) lots/\H=aB bx ls found lots
theorem JK(q:Sf)(B:R5 Sf):dF .fi (.int q) (.lst<|aP B)=KX (B.contains q):=by
 show yA (.int q) (aP B)=_;unfold yA;rw[Sv (by rw[Ta];exact ⟨rfl,kj B⟩)]
 congr 1
 unfold aP;rw[List.any_map,List.contains_eq_any_beq]
 congr 1
 funext x
 rw[show(q==x)=decide (q=x) from rfl];exact decide_eq_decide.mpr ⟨λe=>(Yx e).symm,λe=>R6 Int.ofNat e.symm⟩
noncomputable def PL:AV->Sf
 |.int i=>i.toNat
 |_=>0
theorem wo{r:Rec}{e:ME}{loc:Loc}{H H1:Hp}{b:Sq}(h:r.t e loc H=KX (b,H1)):iM r [e] loc H=KX (b,H1):=aq h (by cases b<;>rfl)
noncomputable abbrev Hq:ME:=.cmp .fi (.v 1)<|.aD (.aL (.aL (.v 3) 37) 26) 34 [(.v 2)]
theorem P6(h:LsOk ls){q:Sf}(hq:q<(ak<|aS ls).length)(hl:bh (aS ls) lots):
  ∃lots',bh (aS ls) lots'/\∀(y:Sf) n,(ev P<|n+110).t Hq [.un,.fr<|.int y,.fr<|.int q,.fr<|.ref 6] (aB bx ls found lots)=KX ((d9 (aS ls) q).contains y,aB bx ls found lots'):=by have hT:aS ls∈Ts:=dj h.ok _;obtain ⟨lots',hl',hb⟩:=uZ hT hq hl;refine ⟨lots',hl',λy n=> ?_⟩;have hb':=hb<|n+28;have a37:cT P (aB bx ls found lots) (.ref 6) 37=KX (.ref 7):=rfl;have a26:cT P (aB bx ls found lots) (.ref 7) 26=KX (.ref 8):=rfl;have q3:bP P (aB bx ls found lots) (.ref 8) 34=KX 37:=rfl;exact fv (xv rfl) (cY (cH (cH (xv rfl) a37) a26) q3 (aH (xv rfl) br) hb')<|JK y _
abbrev O6(T:R5 Sf)(q:Sf)(x:AV):Bool:=(d9 T q).contains<|PL x
theorem Jd(h:LsOk ls){q:Sf}(hq:q<(ak<|aS ls).length)(y:Sf)(H:Hp)(hI:IC bx ls found H):
  ∃H',IC bx ls found H'/\∀n,iM (ev P<|n+110) [Hq] [.un,.fr<|.int y,.fr<|.int q,.fr<|.ref 6] H=KX ((d9 (aS ls) q).contains y,H'):=by obtain ⟨lots,hl,rfl⟩:=hI;obtain ⟨lots',hl',t⟩:=P6 h hq hl;exact ⟨_,⟨lots',hl',rfl⟩,λn=>wo<|t y n⟩
theorem LG(n:Sf)(y:AV)(q:Sf)(H:Hp):(ev P<|n+110).e (.v 1) [.un,.fr y,.fr<|.int q,.fr<|.ref 6] H=KX (id y,H):=xv rfl
theorem Mn(q:Sf):1<([.un,.un,.fr<|.int q,.fr<|.ref 6]:Loc).length:=by simp
theorem JT(h:LsOk ls){ns:R5 Sf}{q:Sf}(hq:q<(ak<|aS ls).length)(hns:ns.length<900)(H:Hp)(hI:IC bx ls found H):
  ∃H',IC bx ls found H'/\∀n,eA (ev P<|n+110) (.n 1) [Hq] (.v 1) (aP ns) [] [.un,.un,.fr<|.int q,.fr<|.ref 6] H=KX ([]++((aP ns).filter<|O6 (aS ls) q).map id,H'):=by
 refine G4 (aP ns) [] [.un,.un,.fr<|.int q,.fr<|.ref 6] H (Mn q) ?_ ?_ ?_ hI
 ·rw[show(aP ns).length=ns.length from Sr ..]
  exact Sb (SA<|SX _)<|Sw hns (by decide)
 ·intro x hx H hI
  obtain ⟨y,_,rfl⟩:=List.mem_map.mp hx;exact Jd h hq y H hI
 ·intro x _ H n
  exact LG n x q H
end
noncomputable section
variable{bx:R5 AV}{ls:R5 Ln}{lots:R5 (SK×AV)}{found:R5 AV}
theorem ne_nil{L:R5 AV}(h:L.all (AV.plain 7)=R8):dF .ne (.lst L) (.lst [])=KX (!L.isEmpty):=by
 show(tw (.lst L)<|.lst []).map (!·)=_;unfold tw;rw[Sv (by rw[Ta];exact ⟨h,rfl⟩)]
 cases L<;>rfl
theorem xM(ns:R5 Sf)(p:AV->Sq):((aP ns).filter p).all (AV.plain 7)=true:=
 List.all_eq_true.mpr λx hx=>List.all_eq_true.mp (kj ns) x<|(List.mem_filter.mp hx).1
noncomputable abbrev PN:ME:=.or [(.cmp .eq (.v 6)<|.v 2),(.and [(.cmp .eq (.v 6)<|.g 27),(.cmp .eq (.v 2)<|.g 28)])]
abbrev PE:ME:=.comp [Sd,Sd,KX 5,KX 0] (.n 1) (.e<|.v 1) [Hq] (.v 1)
abbrev QM:ME:=.and [(.v 7),(.cmp .ne PE<|.lst [])]
abbrev O2:R5 MS:=[.as 7 PN,.iff QM [.app 3 (.v 4)] []]
abbrev rR(ns:R5 Sf)(s:SK)(fd:R5 AV)(x4 x5 x6 x7:SV):Loc:=[.fr (.ref 6),.fr<|.lst<|aP ns,.fr<|.int s,.ml fd,x4,x5,x6,x7,.un,.un,.un]
theorem La{x0 x1 x3 x4 x5 x7 x8 x9 x10:SV}(n:Sf)(H:Hp)(d s:SK)(hd:d=0\/d=1\/d=2)(hs:s=1\/s=2):(ev P<|n+20).e PN [x0,x1,.fr<|.int s,x3,x4,x5,.fr<|.int d,x7,x8,x9,x10] H=KX (.bool<|decide (d=s),H):=by
 rcases hd with rfl|rfl|rfl<;>rcases hs with rfl|rfl<;>kernel_rfl
theorem Lf(h:LsOk ls){ns:R5 Sf}{s:SK}{fd:R5 AV}{x4 x6 x7:SV}{q:Sf}(hq:q<(ak<|aS ls).length)(hns:ns.length<900)(H:Hp)(hI:IC bx ls found H):
  ∃b H',IC bx ls found H'/\∀n,(ev P<|n+114).t (.cmp .ne PE<|.lst []) (rR ns s fd x4 (.fr<|.int q) x6 x7) H=KX (b,H'):=by obtain ⟨H',hI',run⟩:=JT h hq hns H hI;refine ⟨!((aP ns).filter<|O6 (aS ls) q).isEmpty,H',hI',λn=> ?_⟩;have ol:aw (aP ns).length=true:=aY (by rw[show(aP ns).length=ns.length from Sr ..];exact Si ‹_› (by decide));have r:=run<|n+2;rw[List.map_id,Ua] at r;exact fv (ph (iV (xv rfl) ol) rfl r) (uH br)<|ne_nil<|xM ns _
theorem JB(h:LsOk ls){ns:R5 Sf}{s d:SK}{fd:R5 AV}{p:AV}{x7:SV}{q:Sf}(hq:q<(ak<|aS ls).length)(hns:ns.length<900)(hd:d=0\/d=1\/d=2)(hs:s=1\/s=2)(hf:fd.length<900)(H:Hp)(hI:IC bx ls found H):
  ∃fd' x7' H',fd'.length<=fd.length+1/\IC bx ls found H'/\∀n,bO (ev P<|n+117) O2 (rR ns s fd (.fr p) (.fr<|.int q) (.fr<|.int d) x7) H=KX (.nx,rR ns s fd' (.fr p) (.fr<|.int q) (.fr<|.int d) x7',H'):=by
 have so:=λn=>La (x0:=.fr<|.ref 6) (x1:=.fr<|.lst<|aP ns) (x3:=.ml fd) (x4:=.fr p) (x5:=.fr<|.int q) (x7:=x7) (x8:=.un) (x9:=.un) (x10:=.un) n H d s hd hs
 by_cases e:d=s
 ·rw[Sz e] at so
  obtain ⟨b,H',hI',run⟩:=Lf h hq hns H hI
  cases b with
  |true=>
   refine ⟨fd++[p],.fr<|.bool R8,H',by simp,hI',λn=> ?_⟩;refine s1 (ib (so<|n+96) rfl)<|bp ?_;refine s1 (dh (uY<|jK (tv rfl)<|condT rfl (jK (run<|n+1) rfl)) ?_)<|bp s0;exact s1 (AN (xv rfl) rfl (aY<|Si ‹_› (by decide)))<|bp s0
  |false=>
   refine ⟨fd,.fr<|.bool R8,H',by simp,hI',λn=> ?_⟩;refine s1 (ib (so<|n+96) rfl)<|bp ?_;exact s1 (dh (uY<|jK (tv rfl)<|condT rfl (jK (run<|n+1) rfl)) s0)<|bp s0
 ·rw[Un e] at so
  refine ⟨fd,.fr<|.bool Sj,H,by simp,hI,λn=> ?_⟩;refine s1 (ib (so<|n+96) rfl)<|bp ?_;exact s1 (dh (uY<|jK (tv rfl) rfl) s0)<|bp s0
end
noncomputable section
theorem Jt:(Ts.map λT=>decide (ak T).Nodup)=Ts.map λu0=>true:=by kernel_rfl
theorem yD:(Ts.map λT=>(ak T).all λt=>decide (t<17)&&(match gQ t with|some p=>(ak T).contains p|none=>R8))=Ts.map λu0=>true:=by kernel_rfl
theorem QT{T:R5 Sf}(hT:T∈Ts):(ak T).Nodup:=Sa<|bA Jt hT
theorem mlt{T:R5 Sf}(hT:T∈Ts){t:Sf}(ht:t∈ak T):t<17:=by have:=List.all_eq_true.mp (bA yD hT) t ht;rw[Ta] at this;exact Sa this.1
theorem Fq{T:R5 Sf}(hT:T∈Ts){t p:Sf}(ht:t∈ak T)(hp:gQ t=KX p):p∈ak T:=by have:=List.all_eq_true.mp (bA yD hT) t ht;rw[Ta,hp] at this;exact List.contains_iff_mem.mp this.2
theorem qK{x i:Sf}:∀{M:R5 Sf} {k:Sf},(x,i)∈mO k M↔∃j,i=k+j/\M[j]? =KX x:=by
 intro M
 induction M with
 |nil=>
  intro k;simp[mO]
 |cons y M ih=>
  intro k;unfold mO;rw[Ug,ih];constructor
  ·rintro(h|⟨j,rfl,h⟩)
   ·injection h with a b;subst a;subst b;exact ⟨0,rfl,rfl⟩
   ·exact ⟨j+1,by exact TP _ _ _,h⟩
  ·rintro ⟨j,rfl,h⟩
   cases j with
   |zero=>left;simp at h;subst h;rfl
   |succ j=>right;exact ⟨j,by exact(Nat.succ_add _ _).symm,h⟩
theorem rf{t:Sf}:∀{M:R5 Sf},t∈M->M[cR t M]? =KX t:=by
 intro M
 induction M with
 |nil=>
  intro h
  cases h
 |cons x M ih=>
  intro h;unfold cR
  by_cases e:x=t
  ·rw[Sv e,e];rfl
  ·rw[SI e,Zk]
   exact ih (by rcases List.mem_cons.mp h with h|h;exact TL h.symm e;exact h)
theorem HZ{t:Sf}:∀{M:R5 Sf} {j:Sf},M.Nodup->M[j]? =KX t->cR t M=j:=by
 intro M
 induction M with
 |nil=>
  intro j u1 h;simp at h
 |cons x M ih=>
  intro j hn h;unfold cR
  cases j with
  |zero=>simp at h;rw[Sv h]
  |succ j=>
   rw[Zk] at h;have hm:=SM h;rw[SI (by intro e;subst e;exact(List.nodup_cons.mp hn).1 hm),ih (List.nodup_cons.mp hn).2 h]
theorem uC{T:R5 Sf}(_:T∈Ts){t c:Sf}(ht:t∈ak T)(hc:c∈ak T):cR t (ak T)∈d9 T (cR c<|ak T)↔bD t c=true:=by
 unfold d9;rw[show(ak T).getD (cR c<|ak T) 0=c from by rw[Ur,rf hc];rfl];constructor
 ·intro h
  obtain ⟨⟨x,i⟩,hx,e⟩:=List.mem_map.mp h;obtain ⟨hx,hs⟩:=List.mem_filter.mp hx;obtain ⟨j,e2,hj⟩:=qK.mp hx;have:=by have h2:=rf ht;rw[←e,e2,SX,hj] at h2;exact R9 h2
  subst this;exact hs
 ·intro h
  exact List.mem_map.mpr ⟨(t,cR t<|ak T),List.mem_filter.mpr ⟨qK.mpr ⟨_,(SX _).symm,rf ht⟩,h⟩,rfl⟩
theorem Jo{T:R5 Sf}(hT:T∈Ts){q c:Sf}(hc:c∈ak T)(hq:q∈d9 T (cR c<|ak T)):∃t∈ak T,q=cR t (ak T)/\bD t c=true:=by unfold d9 at hq;rw[show(ak T).getD (cR c<|ak T) 0=c from by rw[Ur,rf hc];rfl] at hq;obtain ⟨⟨x,i⟩,hx,e⟩:=List.mem_map.mp hq;obtain ⟨hx,hs⟩:=List.mem_filter.mp hx;obtain ⟨j,e2,hj⟩:=qK.mp hx;rw[SX] at e2;subst e2;subst e;exact ⟨x,SM hj,(HZ (QT hT) hj).symm,hs⟩
def ot(T:R5 Sf)(F:R5 SK)(t:Sf)(s:SK):Prop:=3*(cR t (ak T):SK)+s∈F
theorem CL{B:R5 Sf}{q:Sf}{s:SK}(hs:s=0\/s=1\/s=2):3*(q:SK)+s∈hO B↔q∈B:=by
 constructor
 ·intro h
  obtain ⟨r,hr,h⟩:=List.mem_flatMap.mp h;simp only[Ug,S7] at h;have:q=r:=h.elim (λe=>(q3 hs (.inl rfl) e).1) λh=>h.elim (λe=>(q3 hs (.inr<|.inl rfl) e).1) λe=>(q3 hs (.inr<|.inr rfl)<|e.resolve_right<|λz=>nomatch z).1;exact this▸hr
 ·exact λh=>xN h hs
theorem Gu{B:R5 Sf}{q:Sf}{s s':SK}(hs:s=0\/s=1\/s=2)(hs':s'=0\/s'=1\/s'=2):3*(q:SK)+s'∈mz B s↔q∈B/\s'=s:=by
 unfold mz;rw[List.mem_map];constructor
 ·rintro ⟨r,hr,h⟩
  obtain ⟨rfl,rfl⟩:=q3 hs hs' h;exact ⟨hr,rfl⟩
 ·rintro ⟨h,rfl⟩;exact ⟨q,h,rfl⟩
theorem kO{T:R5 Sf}(hT:T∈Ts){F:R5 SK}{t c:Sf}{s s':SK}(ht:t∈ak T)(hc:c∈ak T)(hs:s=0\/s=1\/s=2)(hs':s'=0\/s'=1\/s'=2):
  ot T (je T F (cR c<|ak T) s) t s'↔(bD t c=Sj/\ot T F t s')\/(bD t c=R8/\s'=s):=by
 unfold ot je;rw[U3,aaT,Gu hs hs',uC hT ht hc];have:(!(hO<|d9 T<|cR c<|ak T).contains (3*(cR t<|ak T)+s'))=R8↔bD t c=false:=by rw[Vb,←TF,Tt,CL hs',uC hT ht hc,TF]
 rw[this];exact ⟨λh=>h.imp (λh=>⟨h.2,h.1⟩) id,λh=>h.imp (λh=>⟨h.2,h.1⟩) id⟩
theorem FO(T:R5 Sf)(F:R5 SK)(d:Sf×SK)(ds:R5 (Sf×SK)):dC T F (d::ds)=dC T (je T F d.1 d.2) ds:=rfl
theorem yw{T:R5 Sf}(hT:T∈Ts){t:Sf}{s':SK}(ht:t∈ak T)(hs':s'=0\/s'=1\/s'=2):∀(ds:R5 (Sf×SK)) (F:R5 SK),¬ot T F t s'->(∀d∈ds,∃c∈ak T,d.1=cR c (ak T)/\(d.2=0\/d.2=1\/d.2=2)/\(d.2=s'->bD t c=Sj))->¬ot T (dC T F ds) t s':=by
 intro ds
 induction ds with
 |nil=>
  intro F h u2;exact h
 |cons d ds ih=>
  intro F h hd;rw[FO];obtain ⟨c,hc,e,hs,hn⟩:=hd d<|.head _;refine ih _ ?_ λd h=>hd d<|.tail _ h;rw[e,kO hT ht hc hs hs']
  rintro(⟨_,h2⟩|⟨h1,h2⟩)
  ·exact h h2
  ·rw[hn h2.symm] at h1;exact bc h1
theorem dK{T:R5 Sf}{t:Sf}(ht:t<12):t∈ak T:=by
 refine Wc _ ?_;have:∀t<12,t∈pg++[10,11]:=by decide
 exact this t ht
theorem rg{T:R5 Sf}(hT:T∈Ts){t:Sf}(ht:t<12):cR t (ak T)=t:=by
 have h:=(td hT ht);have e:near (ak T) t=t:=by unfold near;rw[Sv h.1]
 have:=h.2;unfold dy at this;rw[e] at this;exact this
def nv(gone:R5 Sf):Ln->R5 Sf
 |.use mv k=>if mv&& !dZ k then gone++[bw k] else gone
 |.anew l=>gone.filter λg=> !bD g l
def eB(ls:R5 Ln)(k:Sf):R5 Nat:=(ls.take k).foldl nv []
theorem oY{ls:R5 Ln}{k:Sf}{l:Ln}(h:ls[k]? =KX l):eB ls (k+1)=nv (eB ls k) l:=by unfold eB;rw[aar,h];simp
structure Inv(T:R5 Sf)(gone:R5 Sf)(F:R5 SK):Prop where
 sub:∀g∈gone,g∈ak T/\g∉ [0,6,8,9]
 mv:∀t∈ak T,ot T F t 1↔∃g∈gone,bD t g=R8
 un:∀t∈ak T,t∉ [0,8,9]->¬ot T F t 2
 n9:ot T F 9 2
theorem Gh:(So 17).all λt=>(So 10).all λc=> !(decide (fW c=2))||([0,8,9]:R5 Sf).contains t|| !bD t c:=by decide+kernel
theorem Je(t:Sf)(ht:t<17)(c:Sf)(hc:c<10)(h1:fW c=2)(h2:t∉ [0,8,9]):bD t c=false:=by
 have:=List.all_eq_true.mp (List.all_eq_true.mp Gh t<|List.mem_range.mpr ht) c<|List.mem_range.mpr hc;rw[Sz h1,show([0,8,9]).contains t=Sj from by rw[←TF,Tt];exact h2] at this
 simpa using this
theorem ui(c:Sf):fW c=0\/fW c=2:=by unfold fW;split<;>simp
theorem DI{T:R5 Sf}(hT:T∈Ts){d:Sf×SK}(hd:d∈gV):∃c,c<10/\d.1=cR c (ak T)/\d.2=fW c:=by obtain ⟨i,hi,rfl⟩:=List.mem_map.mp hd;have:=List.mem_range.mp hi;exact ⟨i,this,(rg hT<|Si ‹_› (by decide)).symm,rfl⟩
theorem inv_zero{T:R5 Sf}(hT:T∈Ts):Inv T [] (dC T [] gV) where
 sub:=λu0 h=>by cases h
 mv:=λt ht=>by
  have:¬ot T (dC T [] gV) t 1:=yw hT ht (by decide) _ _ (by unfold ot;exact S7) λd hd=>by
   obtain ⟨c,hc,e1,e2⟩:=DI hT hd;refine ⟨c,dK<|Si ‹_› (by decide),e1,by rw[e2];rcases ui c with h|h<;>simp[h],λh=> ?_⟩;rw[e2] at h
   rcases ui c with h2|h2<;>rw[h2] at h<;>exact TL h (by decide)
  simp[this]
 un:=λt ht hn=>yw hT ht (by simp) _ _ (by unfold ot;exact S7) λd hd=>by obtain ⟨c,hc,e1,e2⟩:=DI hT hd;refine ⟨c,dK<|Si ‹_› (by decide),e1,by rw[e2];rcases ui c with h|h<;>simp[h],λh=> ?_⟩;exact Je t (mlt hT ht) c hc (e2▸h) hn
 n9:=by
  have e:gV=(So 9).map (λi=>(i,fW i))++[(9,2)]:=by decide
  rw[e];unfold dC;rw[VM];have h9:=rg hT (t:=9) (by decide);have:=(kO hT (F:=((So 9).map<|λi=>(i,fW i)).foldl (λF d=>je T F d.1 d.2) []) (t:=9) (c:=9) (s':=2) (dK (by decide)) (dK (by decide)) (by simp) (by simp)).mpr<|.inr ⟨by decide,rfl⟩;rw[h9] at this;exact this
end
noncomputable section
variable{bx:R5 AV}{ls:R5 Ln}{lots:R5 (SK×AV)}{found:R5 AV}
theorem LX(h:LsOk ls)(k:Sf):(∀d∈kh ls (aS ls) k,d.1<(ak<|aS ls).length/\(d.2=0\/d.2=1\/d.2=2))/\(kh ls (aS ls) k).length<=2:=rn (dj h.ok _) h k
theorem I3(n:Sf){k:Sf}(hk:k<ls.length+1):(ev P<|n+40).f 42 [.ref 7,tupI k] (aB bx ls found lots)=KX (.lst<|(kh ls (aS ls) k).map jN,aB bx ls found lots):=by rw[←xG];exact Ad n hk
abbrev P5:MS:=.for (.t [(.n 5),(.n 6)]) (.e<|.aD (.aL (.v 0) 37) 36 [(.v 4)]) O2
theorem mk_inner(h:LsOk ls){ns:R5 Sf}{s:SK}(hns:ns.length<900)(hs:s=1\/s=2){k:Sf}(hk:k<ls.length+1){fd:R5 AV}(hf:fd.length<=2*k){x5 x6 x7:SV}(H:Hp)(hI:IC bx ls found H):
  ∃fd' x5' x6' x7' H',fd'.length<=2*(k+1)/\IC bx ls found H'/\∀n,(ev P<|n+118).s P5 (rR ns s fd (.fr<|tupI k) x5 x6 x7) H=KX (.nx,rR ns s fd' (.fr<|tupI k) x5' x6' x7',H'):=by
 obtain ⟨hds,hd2⟩:=LX h k;have h8:=h.len;obtain ⟨lots,hl,rfl⟩:=hI;have hdd:=λn=>I3 (bx:=bx) (found:=found) (lots:=lots) n hk;generalize kh ls (aS ls) k=ds at hds hd2 hdd;obtain ⟨loc',H',⟨fd',x5',x6',x7',hf',hI',rfl⟩,run⟩:=l5 (t:=.t [(.n 5),(.n 6)])
  (J:=λi loc H=>∃fd' x5' x6' x7',fd'.length<=2*k+i/\IC bx ls found H/\loc=rR ns s fd' (.fr<|tupI k) x5' x6' x7')
  (ds.map jN) 0 (rR ns s fd (.fr<|tupI k) x5 x6 x7) (aB bx ls found lots) (λi x hx loc H hJ=>by obtain ⟨fd,x5,x6,x7,hf,hI,rfl⟩:=hJ;rw[S1] at hx;obtain ⟨d,hd,rfl⟩:=Option.map_eq_some_iff.mp hx;have hi:=(List.getElem?_eq_some_iff.mp hd).1;have hdm:=hds d<|SM hd;obtain ⟨fd',x7',H',hf',hI',run⟩:=JB h hdm.1 hns hdm.2 hs (Sb (Ss hf<|UO (TH 2<|Ss (Uj hk) h8)<|Ss (SA<|SX i)<|Ss (SQ hi) hd2) (by decide)) H hI;exact ⟨_,_,H',rfl,⟨fd',_,_,x7',Ss hf'<|S6 hf 1,hI',rfl⟩,.inl run⟩) ⟨fd,x5,x6,x7,by assumption,⟨lots,hl,rfl⟩,rfl⟩;rw[Sr,SX] at hf';refine ⟨fd',x5',x6',x7',H',Ss hf'<|S2 hd2 _,hI',λn=> ?_⟩;have a37:cT P (aB bx ls found lots) (.ref 6) 37=KX (.ref 7):=rfl;have q3:bP P (aB bx ls found lots) (.ref 7) 36=KX 42:=rfl;exact iU (iV (cY (cH (xv rfl) a37) q3 (aH (xv rfl) br)<|hdd<|n+76)<|aY (by rw[Sr];exact Sb ‹_› (by decide)))<|run n
theorem E9(h:LsOk ls){ns:R5 Sf}{s:SK}(hns:ns.length<900)(hs:s=1\/s=2)(H:Hp)(hI:IC bx ls found H):
  ∃rs H',rs.length<900/\IC bx ls found H'/\∀n,(ev P<|n+122).f 50 [.ref 6,.lst<|aP ns,.int s] H=KX (.lst rs,H'):=by
 have h8:=h.len;have hs9:ls.length<900:=by exact Sb ‹_› (by decide)
 obtain ⟨loc',H',⟨fd,x4,x5,x6,x7,hf,hI',rfl⟩,run⟩:=l5 (t:=.n 4)
  (J:=λk loc H=>∃fd x4 x5 x6 x7,fd.length<=2*k/\IC bx ls found H/\loc=rR ns s fd x4 x5 x6 x7)
  (dW<|ls.length+1) 0 (rR ns s [] .un .un .un .un) H (λk x hx loc H hJ=>by obtain ⟨fd,x4,x5,x6,x7,hf,hI,rfl⟩:=hJ;obtain ⟨hk,rfl⟩:=tQ hx;rw[SX] at hf⊢;obtain ⟨fd',x5',x6',x7',H',hf',hI',run⟩:=mk_inner h hns hs hk hf H hI;exact ⟨_,_,H',rfl,⟨fd',_,x5',x6',x7',hf',hI',rfl⟩,.inl λn=>s1 (run n)<|bp s0⟩) ⟨[],_,_,_,_,by simp,hI,rfl⟩;rw[show(dW<|ls.length+1).length=ls.length+1 from by simp[dW]] at hf;refine ⟨fd,H',Sb (Ss hf<|TH 2<|Ss (SA<|SX _)<|WW h8) (by decide),hI',λn=> ?_⟩;have ol:aw (dW<|ls.length+1).length=true:=aY (by simp[dW];exact Sb ‹_› (by decide));have g16:P.bW[16]? =KX (.fn 14):=rfl;obtain ⟨lots,hl,rfl⟩:=hI;have a15:cT P (aB bx ls found lots) (.ref 6) 15=KX (ay ls):=rfl;have src:abw P (ev P<|n+120) (.e<|.aM 16 [(.aL (.v 0) 15)]) (rR ns s [] .un .un .un .un) (aB bx ls found lots)=KX (dW<|ls.length+1,aB bx ls found lots):=iV (cD g16 (aH (cH (xv rfl) a15) br)<|o8 (n+79) _ hs9) ol;rw[dE ⟨3,[],11,gT⟩ rfl rfl];have all:bO (ev P<|n+121) gT [.fr (.ref 6),.fr<|.lst<|aP ns,.fr<|.int s,.un,.un,.un,.un,.un,.un,.un,.un] (aB bx ls found lots)=KX (.rt<|.lst fd,[.fr (.ref 6),.fr<|.lst<|aP ns,.fr<|.int s,.fr<|.lst fd,x4,x5,x6,x7,.un,.un,.un],H'):=by refine s1 (Qw br rfl)<|bp ?_;refine s1 (iU src<|run<|n+2)<|bp ?_;refine s1 (sE rfl rfl)<|bp ?_;exact s1 (qt<|xv rfl) lE
 exact R6 outF all
end
noncomputable section
variable{bx:R5 AV}{ls:R5 Ln}{lots:R5 (SK×AV)}{found:R5 AV}
noncomputable abbrev jF:R5 Nat:=[117,115,101,32,111,102,32,109,111,118,101,100]
noncomputable abbrev lG:R5 Nat:=[117,115,101,32,111,102,32,117,110,105,110,105,116,105,97,108,105,115,101,100]
noncomputable abbrev mQ:R5 Nat:=[109,111,118,101,32,111,117,116,32,111,102,32,97,32,114,101,102,101,114,101,110,99,101]
noncomputable def eH(F:R5 SK)(ns:R5 Sf)(s:SK):R5 Nat:=ns.filter λq=>F.contains<|3*(q:SK)+s
def gU(F:R5 SK)(ns:R5 Sf)(j:Sf):R5 AV:=if eH F ns 1=[] then(if eH F ns 2=[] then [] else [fU j lG]) else [fU j jF]
noncomputable abbrev Mi:ME:=.aD (.aL (.v 3) 37) 39 [(.v 2),(.v 1),(.v 4)]
abbrev HB(F:R5 SK)(s:SK)(x:AV):Bool:=F.contains<|3*(PL x:SK)+s
theorem Jp(n:Sf){F:R5 SK}{s:SK}{q:Sf}(hF:F.length<100)(hq:q<900)(hs:s=1\/s=2):iM (ev P<|n+44) [Mi] [.un,.fr<|.int q,.fr<|.aQ F,.fr<|.ref 6,.fr<|.int s] (aB bx ls found lots)=KX (HB F s<|.int q,aB bx ls found lots):=by
 have a37:cT P (aB bx ls found lots) (.ref 6) 37=KX (.ref 7):=rfl;have q3:bP P (aB bx ls found lots) (.ref 7) 39=KX 46:=rfl;have hm:=Fg (n+2) (H:=aB bx ls found lots) hF hq<|.inr hs;have e:HB F s (.int q)=F.contains (3*q+s):=by show F.contains (3*((aaW q))+s)=_;rw[UE]
 rw[e];exact wo<|qA<|cY (cH (xv rfl) a37) q3 (aH (xv rfl)<|aH (xv rfl)<|aH (xv rfl) br) hm
theorem Lr(n:Sf)(y:AV)(F:R5 SK)(s:SK)(H:Hp):(ev P<|n+44).e (.v 1) [.un,.fr y,.fr<|.aQ F,.fr<|.ref 6,.fr<|.int s] H=KX (id y,H):=xv rfl
theorem Dw(F:R5 SK)(s:SK):∀ns:R5 Sf,(aP ns).filter (HB F s)=aP (eH F ns s):=by
 intro ns
 induction ns with
 |nil=>
  exact rfl
 |cons q ns ih=>
  have e:HB F s (.int q)=F.contains (3*q+s):=by show F.contains (3*((aaW q))+s)=_;rw[UE]
  unfold eH aP at ih⊢;rw[T7,UK,UK,e,ih]
  split<;>rfl
theorem Ik{F:R5 SK}{s:SK}{ns:R5 Sf}(hF:F.length<100)(hn:ns.length<900)(hq:∀q∈ns,q<900)(hs:s=1\/s=2)(n:Sf):eA (ev P<|n+44) (.n 1) [Mi] (.v 1) (aP ns) [] [.un,.un,.fr<|.aQ F,.fr<|.ref 6,.fr<|.int s] (aB bx ls found lots)=KX (aP<|eH F ns s,aB bx ls found lots):=by
 obtain ⟨H',rfl,run⟩:=G4 (i:=1) (aP ns) [] [.un,.un,.fr<|.aQ F,.fr<|.ref 6,.fr<|.int s] (aB bx ls found lots) (by exact Sa rfl) (by
   rw[show(aP ns).length=ns.length from Sr ..];exact Sb (SA<|SX _)<|Sw hn (by decide)) (λx hx H hI=>by subst hI;obtain ⟨q,hq',rfl⟩:=List.mem_map.mp hx;exact ⟨_,rfl,λn=>Jp n hF (hq q hq') hs⟩) (λx O H n=>Lr n x F s H) rfl;have:=run n;rw[List.map_id,Ua,Dw] at this;exact this
abbrev OK:ME:=.comp [Sd,Sd,KX 2,KX 0,KX 5] (.n 1) (.e<|.v 4) [Mi] (.v 1)
abbrev Mw:R5 MS:=[.as 7 OK,.iff (.cmp .ne (.v 7)<|.lst []) [.ex (.aD (.v 0) 40 [(.v 1),(.v 6),(.v 3),(.aD (.v 0) 41 [(.v 7),(.v 5)])]),.ret0] []]
abbrev l7(j:Sf)(F:R5 SK)(k:Sf)(ns:R5 Sf)(x5 x6 x7:SV):Loc:=[.fr (.ref 6),.fr<|tupI j,.fr<|.aQ F,.fr (aO k).pl,.fr<|.lst<|aP ns,x5,x6,x7,.un,.un]
theorem GD{j k:Sf}{F:R5 SK}{s:SK}{ns:R5 Sf}{x6 x7:SV}(hF:F.length<100)(hn:ns.length<900)(hq:∀q∈ns,q<900)(hs:s=1\/s=2)(n:Sf):(ev P<|n+46).s (.as 7 OK) (l7 j F k ns (.fr<|.int s) x6 x7) (aB bx ls found lots)=KX (.nx,l7 j F k ns (.fr<|.int s) x6<|.fr<|.lst<|aP<|eH F ns s,aB bx ls found lots):=
 ib (ph (iV (xv rfl)<|aY (by rw[show(aP ns).length=ns.length from Sr ..];exact Si ‹_› (by decide))) rfl (Ik hF hn hq hs n)) rfl
theorem HC{j k:Sf}{F:R5 SK}{ns ms:R5 Sf}{x5 x6:SV}(n:Sf)(H:Hp):(ev P<|n+5).t (.cmp .ne (.v 7)<|.lst []) (l7 j F k ns x5 x6<|.fr<|.lst<|aP ms) H=KX (!(aP ms).isEmpty,H):=
 fv (xv rfl) (uH br) (ne_nil<|kj ms)
theorem BJ{j k:Sf}{F:R5 SK}{s:SK}{ns:R5 Sf}{x6 x7:SV}(hF:F.length<100)(hn:ns.length<900)(hq:∀q∈ns,q<900)(hs:s=1\/s=2)(he:eH F ns s=[])(n:Sf):
  bO (ev P<|n+148) Mw (l7 j F k ns (.fr<|.int s) x6 x7) (aB bx ls found lots)=KX (.nx,l7 j F k ns (.fr<|.int s) x6<|.fr<|.lst [],aB bx ls found lots):=by have a:=GD (bx:=bx) (ls:=ls) (found:=found) (lots:=lots) (j:=j) (k:=k) (x6:=x6) (x7:=x7) hF hn hq hs<|n+102;rw[he] at a;refine s1 a<|bp ?_;exact s1 (dh (HC (n+142) _) s0)<|bp s0
theorem Dh(h:LsOk ls){j k:Sf}{F:R5 SK}{s:SK}{ns:R5 Sf}{kd:R5 Sf}{x7:SV}(hk:k<22)(hF:F.length<100)(hn:ns.length<900)(hq:∀q∈ns,q<900)(hs:s=1\/s=2)(he:eH F ns s≠ [])(hf:found.length<900)(hkd:kd.length<100)(hl:bh (aS ls) lots):
  ∃lots',bh (aS ls) lots'/\∀n,bO (ev P<|n+148) Mw (l7 j F k ns (.fr<|.int s) (.fr<|.str kd) x7) (aB bx ls found lots)=KX (.rt .none,l7 j F k ns (.fr<|.int s) (.fr<|.str kd)<|.fr<|.lst<|aP<|eH F ns s,aB bx ls (found++[fU j kd]) lots'):=by
 have hms:(eH F ns s).length<900:=Sb (Xg ..) hn;obtain ⟨rs,H',hrs,⟨lots',hl',rfl⟩,mk⟩:=E9 h hms hs _ ⟨lots,hl,rfl⟩;refine ⟨lots',hl',λn=> ?_⟩;refine s1 (GD hF hn hq hs<|n+102)<|bp ?_;have m40:∀l,bP P (aB bx ls found l) (.ref 6) 40=KX 49:=λu0=>rfl;have m41:∀l,bP P (aB bx ls found l) (.ref 6) 41=KX 50:=λu0=>rfl;have ne:(!(aP<|eH F ns s).isEmpty)=true:=by
  cases e:eH F ns s with
  |nil=>exact TL e he
  |cons a b=>rfl
 have tn:=HC (j:=j) (F:=F) (k:=k) (ns:=ns) (ms:=eH F ns s) (x5:=.fr<|.int s) (x6:=.fr<|.str kd) (n+142)<|aB bx ls found lots;rw[ne] at tn;refine s1 (dh tn ?_) lE;refine s1 (rM (v:=.none) ?_)<|bp<|s1 AP lE;refine cY (xv rfl) (m40 _) ?_<|ID (n+44) hk hf hkd hrs;refine aH (xv rfl)<|aH (xv rfl)<|aH (xv rfl)<|aH ?_ br;exact cY (xv rfl) (m41 _) (aH (xv rfl)<|aH (xv rfl) br)<|mk<|n+22
abbrev Q7:MS:=.for (.t [(.n 5),(.n 6)]) (.e<|.tup [(.tup [(.g 28),(.c<|.str jF)]),(.tup [(.g 26),(.c<|.str lG)])]) Mw
theorem wN{loc:Loc}{H:Hp}(n:Sf):abw P (ev P<|n+10) (.e<|.tup [(.tup [(.g 28),(.c<|.str jF)]),(.tup [(.g 26),(.c<|.str lG)])]) loc H=KX ([.tup [.int 1,.str jF],.tup [.int 2,.str lG]],H):=by have g1:P.bW[28]? =KX (.int 1):=rfl;have g2:P.bW[26]? =KX (.int 2):=rfl;exact iJ (jc<|aH (jc<|aH (xg g1)<|aH xc br)<|aH (jc<|aH (xg g2)<|aH xc br) br) rfl
theorem MW(h:LsOk ls){j k:Sf}{F:R5 SK}{ns:R5 Sf}(hk:k<22)(hF:F.length<100)(hn:ns.length<900)(hq:∀q∈ns,q<900)(hf:found.length<900)(hl:bh (aS ls) lots):
  ∃lots',bh (aS ls) lots'/\∀n,(ev P<|n+150).f 51 [.ref 6,tupI j,.aQ F,(aO k).pl,.lst<|aP ns] (aB bx ls found lots)=KX (.none,aB bx ls (found++gU F ns j) lots'):=by
 have go:∀{fl loc lots'} n,outF (KX (fl,loc,aB bx ls (found++gU F ns j) lots'))=KX (.none,aB bx ls (found++gU F ns j) lots')->(ev P<|n+149).s Q7 (l7 j F k ns .un .un .un) (aB bx ls found lots)=KX (fl,loc,aB bx ls (found++gU F ns j) lots')->(ev P<|n+150).f 51 [.ref 6,tupI j,.aQ F,(aO k).pl,.lst<|aP ns] (aB bx ls found lots)=KX (.none,aB bx ls (found++gU F ns j) lots'):=by
  intro fl loc lots' n ho hr;rw[dE ⟨5,[],10,lu⟩ rfl rfl];refine Vm (R6 outF ?_) ho;refine s1 hr ?_
  cases fl<;>first|rfl
 by_cases h1:eH F ns 1=[]
 ·by_cases h2:eH F ns 2=[]
  ·refine ⟨lots,hl,λn=>go (fl:=.nx) (loc:=l7 j F k ns (.fr<|.int 2) (.fr<|.str lG)<|.fr<|.lst []) n rfl ?_⟩
   rw[show gU F ns j=[] from by unfold gU;rw[Sv h1,Sv h2],SP];refine iU (wN<|n+138)<|lh rfl (BJ hF hn hq (.inl rfl) h1 n) (vS ?_);exact lh rfl (BJ hF hn hq (.inr rfl) h2 n) (vS nD)
  ·obtain ⟨lots',hl',run⟩:=Dh (kd:=lG) h hk hF hn hq (.inr rfl) h2 hf (by decide) hl
   have e:gU F ns j=[fU j lG]:=by unfold gU;rw[Sv h1,SI h2]
   rw[e] at go⊢;refine ⟨lots',hl',λn=>go (fl:=.rt .none) (loc:=l7 j F k ns (.fr<|.int 2) (.fr<|.str lG)<|.fr<|.lst<|aP<|eH F ns 2) n rfl ?_⟩;refine iU (wN<|n+138)<|lh rfl (BJ hF hn hq (.inl rfl) h1 n) (vS ?_);exact lh rfl (run n) Kd
 ·obtain ⟨lots',hl',run⟩:=Dh (kd:=jF) h hk hF hn hq (.inl rfl) h1 hf (by decide) hl
  have e:gU F ns j=[fU j jF]:=by unfold gU;rw[SI h1]
  rw[e] at go⊢;refine ⟨lots',hl',λn=>go (fl:=.rt .none) (loc:=l7 j F k ns (.fr<|.int 1) (.fr<|.str jF)<|.fr<|.lst<|aP<|eH F ns 1) n rfl ?_⟩;refine iU (wN<|n+138) ?_;exact lh rfl (run n) Kd
end
noncomputable section
variable{bx:R5 AV}{ls:R5 Ln}{lots:R5 (SK×AV)}{found:R5 AV}
noncomputable def g8(k:Sf):R5 Nat:=if k=3 then [6] else if k=4 then [9] else []
theorem zj(n:Sf)(H:Hp):((So 22).map λk=>(ev P<|n+20).f 21 [(aO k).pl] H)=((So 22).map λk=>KX (.lst<|aP<|g8 k,H)):=by kernel_rfl
theorem vp(n:Sf){k:Sf}(hk:k<22)(H:Hp):(ev P<|n+20).f 21 [(aO k).pl] H=KX (.lst<|aP<|g8 k,H):=bA (zj n H)<|List.mem_range.mpr hk
theorem KP(h:LsOk ls){k:Sf}(hk:k<22):(jD (aS ls) k).length<900/\∀q∈jD (aS ls) k,q<900:=by
 have hT:aS ls∈Ts:=dj h.ok _;have hp:=tJ hT<|mj k hk;have h17:=G1 hT;unfold jD
 split
 ·obtain ⟨a,b⟩:=wZ hT hp
  exact ⟨by exact Sb ‹_› (by decide),λq hq=>by have:=b q hq;exact Si ‹_› (by decide)⟩
 ·refine ⟨by simp,λq hq=> ?_⟩
  rw[Ud] at hq;exact hq▸Si hp (Ss h17 (by decide))
def my(ls:R5 Ln)(F:R5 SK)(k j:Sf):R5 AV:=gU F (jD (aS ls) k) j
theorem sA(F:R5 SK)(ns:R5 Sf)(j:Sf):(gU F ns j).length<=1:=by
 unfold gU
 split
 ·split<;>simp
 ·simp
def gw(ls:R5 Ln)(F:R5 SK)(k j:Sf):R5 AV:=(g8 k).flatMap (λi=>my ls F (jM i) j)++my ls F k j
noncomputable abbrev QI:ME:=.aD (.v 0) 42 [(.v 1),(.v 2),(.tup [(.v 4),(.tup [])]),(.aD (.aL (.v 0) 37) 43 [(.tup [(.v 4),(.tup [])])])]
theorem CS(h:LsOk ls){j k:Sf}{F:R5 SK}{p:ME}{loc:Loc}(hk:k<22)(hF:F.length<100)(hf:found.length<900)(hl:bh (aS ls) lots)(h0:loc[0]? =KX (.fr<|.ref 6))(h1:loc[1]? =KX (.fr<|tupI j))(h2:loc[2]? =KX (.fr<|.aQ F))
  (hp:∀n H,(ev P<|n+3).e p loc H=KX ((aO k).pl,H)):
  ∃lots',bh (aS ls) lots'/\∀n,(ev P<|n+151).e (.aD (.v 0) 42 [(.v 1),(.v 2),p,(.aD (.aL (.v 0) 37) 43 [p])]) loc (aB bx ls found lots)=KX (.none,aB bx ls (found++my ls F k j) lots'):=by obtain ⟨l1,hl1,ask⟩:=J8 h hl hk;obtain ⟨a1,a2⟩:=KP h hk;obtain ⟨l2,hl2,us⟩:=MW h hk hF a1 a2 hf hl1;refine ⟨l2,hl2,λn=> ?_⟩;have m42:∀l,bP P (aB bx ls found l) (.ref 6) 42=KX 51:=λu0=>rfl;have a37:∀l,cT P (aB bx ls found l) (.ref 6) 37=KX (.ref 7):=λu0=>rfl;have m43:∀l,bP P (aB bx ls found l) (.ref 7) 43=KX 47:=λu0=>rfl;refine cY (xv h0) (m42 _) ?_<|us n;refine aH (xv h1)<|aH (xv h2)<|aH (hp (n+147) _)<|aH ?_ br;exact cY (cH (xv h0)<|a37 _) (m43 _) (aH (hp (n+146) _) br)<|ask<|n+29
abbrev OF:R5 MS:=[.ex QI]
abbrev qF(j:Sf)(F:R5 SK)(k:Sf)(x4:SV):Loc:=[.fr (.ref 6),.fr<|tupI j,.fr<|.aQ F,.fr (aO k).pl,x4,.un]
theorem Oj(h:LsOk ls){j k i:Sf}{F:R5 SK}{x4:SV}(hi:i<10)(hF:F.length<100)(hf:found.length<900)(hl:bh (aS ls) lots):
  ∃lots',bh (aS ls) lots'/\∀n,forL (ev P<|n+152) (.n 4) OF (aP [i]) (qF j F k x4) (aB bx ls found lots)=KX (.nx,qF j F k<|.fr<|.int i,aB bx ls (found++my ls F (jM i) j) lots'):=by
 obtain ⟨l,hl',run⟩:=CS (p:=.tup [(.v 4),(.tup [])]) (loc:=qF j F k<|.fr<|.int i) h (uT i hi).1 hF hf hl rfl rfl rfl (λn H=>by rw[zP i hi];exact jc<|aH (xv rfl)<|aH (jc br) br);refine ⟨l,hl',λn=> ?_⟩;exact lh rfl (s1 (rM<|run n)<|bp s0) (vS nD)
theorem DD(h:LsOk ls){j k:Sf}{F:R5 SK}(hk:k<22)(hF:F.length<100)(hf:found.length<800)(hl:bh (aS ls) lots):
  ∃lots',bh (aS ls) lots'/\∀n,(ev P<|n+155).f 52 [.ref 6,tupI j,.aQ F,(aO k).pl] (aB bx ls found lots)=KX (.none,aB bx ls (found++gw ls F k j) lots'):=by
 have ix:∃lots' x4,bh (aS ls) lots'/\∀n,forL (ev P<|n+152) (.n 4) OF (aP<|g8 k) (qF j F k .un) (aB bx ls found lots)=KX (.nx,qF j F k x4,aB bx ls (found++(g8 k).flatMap (λi=>my ls F (jM i) j)) lots'):=by
  have e1:g8 k=[]\/∃i,i<10/\g8 k=[i]:=by
   unfold g8
   split
   ·exact .inr ⟨6,by decide,rfl⟩
   ·split
    ·exact .inr ⟨9,by decide,rfl⟩
    ·exact .inl rfl
  rcases e1 with e1|⟨i,hi,e1⟩
  ·rw[e1]
   exact ⟨lots,.un,hl,λn=>by rw[TQ,SP];exact nD⟩
  ·rw[e1]
   obtain ⟨l,hl',run⟩:=Oj h hi hF (Si ‹_› (by decide)) hl;exact ⟨l,_,hl',λn=>by rw[TJ,TQ,SP];exact run n⟩
 have len:((g8 k).flatMap<|λi=>my ls F (jM i) j).length<=1:=by
  unfold g8
  split
  ·rw[TJ,TQ,SP];exact sA ..
  ·split
   ·rw[TJ,TQ,SP];exact sA ..
   ·simp
 obtain ⟨l1,x4,hl1,r1⟩:=ix;obtain ⟨l2,hl2,r2⟩:=CS (found:=found++(g8 k).flatMap (λi=>my ls F (jM i) j)) (p:=.v 3) (loc:=qF j F k x4) h hk hF (by rw[Sy];exact Si (Y4 hf len) (by decide)) hl1 rfl rfl rfl (λn H=>xv rfl);refine ⟨l2,hl2,λn=> ?_⟩;rw[dE ⟨4,[],6,f9⟩ rfl rfl];have g33:P.bW[33]? =KX (.fn 21):=rfl;have ol:aw (aP<|g8 k).length=true:=by
  unfold g8
  split
  ·rfl
  ·split<;>rfl
 have all:bO (ev P<|n+154) f9 (qF j F k .un) (aB bx ls found lots)=KX (.nx,qF j F k x4,aB bx ls (found++gw ls F k j) l2):=by unfold f9 gw;rw[←Tf];refine s1 (iU (iV (cD g33 (aH (xv rfl) br)<|vp (n+132) hk _) ol)<|r1<|n+1)<|bp ?_;exact s1 (rM<|r2<|n+2)<|bp s0
 exact R6 outF all
end
noncomputable section
variable{bx:R5 AV}{ls:R5 Ln}{lots:R5 (SK×AV)}{found:R5 AV}
noncomputable def xK(k i:Sf):Bool:=(k==6&&i==0)||(k==7&&i==0)||(k==10&&i==1)
noncomputable abbrev Pm:ME:=.aM 34 [(.aM 20 [(.aL (.v 0) 15),(.tup [(.v 3),(.kH (.v 4)<|.v 5)]),(.aL (.v 0) 16)]),(.aL (.v 0) 16)]
abbrev nJ(j k:Sf)(x5:SV):Loc:=[.fr (.ref 6),.fr<|tupI j,.fr (aO k).pl,.fr<|.int (aO k).l,.fr<|.tup (aO k).st,x5,.un,.un,.un,.un]
def Ky(k i:Sf):AV:=if i=0 then zJ.getD (aO k).l.toNat .none else if k=10 then t6 68 else yl
theorem JI(n:Sf)(bx:R5 AV)(ck mv pt:HE)(ls:R5 Ln):((So 18).map λk=>(So (aO k).st.length).map λi:Sf=>(ev P<|n+40).f 18 [ay ls,se (aO k).l<|(aO k).st.take i,.ref 2] (hp bx ck mv pt))=((So 18).map λk=>(So (aO k).st.length).map λi:Sf=>KX (Ky k i,hp bx ck mv pt)):=by kernel_rfl
theorem HW(n:Sf)(bx:R5 AV)(ck mv pt:HE):((So 18).map λk=>(So (aO k).st.length).map λi:Sf=>(ev P<|n+40).f 29 [Ky k i,.ref 2] (hp bx ck mv pt))=((So 18).map λk=>(So (aO k).st.length).map λi:Sf=>KX (.bool<|xK k i,hp bx ck mv pt)):=by kernel_rfl
theorem EJ{l:R5 AV}{k:SK}:AK (.tup l) (.int k)=if cO k&&aw l.length then KX (.tup<|l.take<|ip l.length k) else none:=rfl
theorem KD{l:R5 AV}{i:Sf}(hl:l.length<900)(hi:i<l.length):AK (.tup l) (.int i)=KX (.tup<|l.take i):=by
 rw[EJ,LZ<|Sw ‹_› (Si ‹_› (by decide)),aY<|Si ‹_› (by decide)];have:ip l.length i=i:=by unfold ip;rw[Sv (VE _)];exact U6<|SQ hi
 rw[this];rfl
theorem xr:∀k<22,(aO k).st.length<900:=by decide+kernel
theorem LA(n:Sf){j k i:Sf}(hk:k<18)(hi:i<(aO k).st.length):(ev P<|n+60).t Pm (nJ j k<|.fr<|.int i) (aB bx ls found lots)=KX (xK k i,aB bx ls found lots):=by have t1:=bA (bA (JI (n+17) bx (E2 ls found) (lr ls) (ba ls (ak<|aS ls) lots) ls)<|List.mem_range.mpr hk)<|List.mem_range.mpr hi;have t2:=bA (bA (HW (n+18) bx (E2 ls found) (lr ls)<|ba ls (ak<|aS ls) lots)<|List.mem_range.mpr hk)<|List.mem_range.mpr hi;have a15:cT P (aB bx ls found lots) (.ref 6) 15=KX (ay ls):=rfl;have a16:cT P (aB bx ls found lots) (.ref 6) 16=KX (.ref 2):=rfl;have g20:P.bW[20]? =KX (.fn 18):=rfl;have g34:P.bW[34]? =KX (.fn 29):=rfl;refine tW<|cD g34 (aH ?_<|aH (cH (xv rfl) a16) br) t2;refine cD g20 (aH (cH (xv rfl) a15)<|aH (jc<|aH (xv rfl)<|aH (Qi (xv rfl) (xv rfl)<|KD (xr k<|Si ‹_› (by decide)) hi) br)<|aH (cH (xv rfl) a16) br) t1
abbrev K3:ME:=.aD (.v 0) 40 [(.v 1),(.c<|.str mQ),(.v 2)]
abbrev Rn:R5 MS:=[.iff Pm [.ex K3,.ret0] []]
theorem yo{j k:Sf}{x3 x4 x5:SV}(hk:k<22)(hf:found.length<900)(n:Sf):(ev P<|n+102).e K3 [.fr (.ref 6),.fr<|tupI j,.fr (aO k).pl,x3,x4,x5,.un,.un,.un,.un] (aB bx ls found lots)=KX (.none,aB bx ls (found++[fU j mQ]) lots):=by have m40:bP P (aB bx ls found lots) (.ref 6) 40=KX 49:=rfl;exact cY (xv rfl) m40 (aH (xv rfl)<|aH xc<|aH (xv rfl) br)<|Gz n hk hf (by decide)
theorem HU{j k:Sf}(hk:k<18)(hf:found.length<900)(n:Sf):∀(is:R5 Sf) (x5:SV),(∀i∈is,i<(aO k).st.length)->
  ∃fl loc,forL (ev P<|n+106) (.n 5) Rn (is.map λi:Sf=>AV.int i) (nJ j k x5) (aB bx ls found lots)=KX (fl,loc,aB bx ls (found++if is.any (xK k) then [fU j mQ] else []) lots)/\(fl=.nx\/fl=.rt .none):=by
 intro is
 induction is with
 |nil=>
  intro x5 u1;exact ⟨.nx,nJ j k x5,by rw[List.any_nil,SI (by decide),SP];exact nD,.inl rfl⟩
 |cons i is ih=>
  intro x5 hi;have o:=LA (bx:=bx) (ls:=ls) (found:=found) (lots:=lots) (n+45) (j:=j) hk<|hi i<|.head _
  cases e:xK k i with
  |true=>
   rw[e] at o;refine ⟨.rt .none,nJ j k<|.fr<|.int i,?_,.inr rfl⟩;rw[WG,e,Zu,Sv rfl];refine lh rfl (s1 (dh o ?_) lE) Kd;exact s1 (rM<|yo (Si ‹_› (by decide)) hf<|n+2)<|bp<|s1 AP lE
  |false=>
   rw[e] at o;obtain ⟨fl,loc,run,hfl⟩:=ih (.fr<|.int i) λi hi'=>hi i<|.tail _ hi';refine ⟨fl,loc,?_,hfl⟩;rw[WG,e,WH];exact lh rfl (s1 (dh o s0)<|bp s0) (vS run)
def gA(k j:Sf):R5 AV:=if dZ k||(aO k).fi then [fU j mQ] else []
theorem JC:∀k<18,(So (aO k).st.length).any (xK k)=(aO k).fi:=by decide+kernel
theorem IP{j k:Sf}(hk:k<18)(hf:found.length<900)(n:Sf):(ev P<|n+110).f 53 [.ref 6,tupI j,(aO k).pl] (aB bx ls found lots)=KX (.none,aB bx ls (found++gA k j) lots):=by
 rw[dE ⟨3,[],10,jW⟩ rfl rfl];have a37:cT P (aB bx ls found lots) (.ref 6) 37=KX (.ref 7):=rfl;have a26:cT P (aB bx ls found lots) (.ref 7) 26=KX (.ref 8):=rfl;have m25:bP P (aB bx ls found lots) (.ref 8) 25=KX 34:=rfl;have ic:(ev P<|n+106).f 34 [.ref 8,(aO k).pl] (aB bx ls found lots)=KX (.bool<|dZ k,aB bx ls found lots):=uh (n+46)<|Si ‹_› (by decide);have t1:(ev P<|n+108).t (.aD (.aL (.aL (.v 0) 37) 26) 25 [(.v 2)]) (nJ j k .un) (aB bx ls found lots)=KX (dZ k,aB bx ls found lots):=
  qA (cY (cH (cH (xv rfl) a37) a26) m25 (aH (xv rfl) br) ic);unfold gA;have e1:(ev P<|n+109).s (.asT (.t [(.n 3),(.n 4)])<|.v 2) [.fr (.ref 6),.fr<|tupI j,.fr (aO k).pl,.un,.un,.un,.un,.un,.un,.un] (aB bx ls found lots)=KX (.nx,nJ j k .un,aB bx ls found lots):=Fu (xv rfl) rfl
 cases hc:dZ k with
 |true=>
  rw[hc] at t1;rw[Zu,Sv rfl];refine R6 outF (a₂:=KX (.rt .none,nJ j k .un,aB bx ls (found++[fU j mQ]) lots)) ?_;refine s1 e1<|bp<|s1 (dh t1 ?_) lE;exact s1 (rM<|yo (Si ‹_› (by decide)) hf<|n+5)<|bp<|s1 AP lE
 |false=>
  rw[hc] at t1;obtain ⟨fl,loc,run,hfl⟩:=HU hk hf (n+2) (So (aO k).st.length) .un λi hi=>List.mem_range.mp hi;rw[JC k hk] at run;rw[WH];have len:gO .len [.tup (aO k).st]=KX (.int (aO k).st.length):=by have:=xr k<|Si ‹_› (by decide);show(if aw (aO k).st.length then KX (AV.int (aO k).st.length) else Sd)=_;rw[Sv (aY<|Si ‹_› (by decide))]
  have src:abw P (ev P<|n+108) (.rng<|.aW .len [(.v 4)]) (nJ j k .un) (aB bx ls found lots)=KX ((So (aO k).st.length).map λi:Sf=>AV.int i,aB bx ls found lots):=by rw[←jP];exact BG (eM (aH (xv rfl) br) len)<|gW (by have:=xr k (Si ‹_› (by decide));exact Si ‹_› (by decide))
  have e2:(ev P<|n+109).s (.iff (.aD (.aL (.aL (.v 0) 37) 26) 25 [(.v 2)]) [.ex K3,.ret0] []) (nJ j k .un) (aB bx ls found lots)=KX (.nx,nJ j k .un,aB bx ls found lots):=dh t1 s0;have e3:=iU src run;generalize (found++if(aO k).fi then [fU j mQ] else [])=fd at e3⊢
  rcases hfl with rfl|rfl
  ·exact Vm (R6 outF<|s1 e1<|bp<|s1 e2<|bp<|s1 e3<|bp s0)<|Ip _ _
  ·exact Vm (R6 outF<|s1 e1<|bp<|s1 e2<|bp<|s1 e3 lE)<|jZ _ _ _
theorem Em(h:LsOk ls){l:Ln}(hok:l.Ok){j:Sf}{F:R5 SK}(n:Sf):(ev P<|n+120).f 54 [.ref 6,tupI j,.aQ F,l.wr] (aB bx ls found lots)=KX (.none,aB bx ls found lots):=by
 have hT:aS ls∈Ts:=dj h.ok _;obtain ⟨a,b,c,d⟩:=xq l hok;have a37:cT P (aB bx ls found lots) (.ref 6) 37=KX (.ref 7):=rfl;have a15:cT P (aB bx ls found lots) (.ref 6) 15=KX (ay ls):=rfl;have a9:cT P (aB bx ls found lots) (ay ls) 9=KX ja:=rfl;have a26:cT P (aB bx ls found lots) (.ref 7) 26=KX (.ref 8):=rfl;have m25:bP P (aB bx ls found lots) (.ref 8) 25=KX 34:=rfl;have m33:bP P (aB bx ls found lots) (.ref 8) 33=KX 35:=rfl;have e1:∀m,(ev P<|m+60).f 34 [.ref 8,l.wr] (aB bx ls found lots)=KX (.bool Sj,aB bx ls found lots):=λm=>by rw[←b,←d];exact uh m a
 have e2:∀m,(ev P<|m+80).f 35 [.ref 8,l.wr] (aB bx ls found lots)=KX (.int<|oJ l,aB bx ls found lots):=λm=>C6 m hT l hok;have e3:∀m H,(ev P<|m+20).f 21 [l.wr] H=KX (.lst [],H):=λm H=>by
  have:=vp m a H;rw[b] at this;rw[this];have:g8 (yq l)=[]:=by
   have:∀l:Ln,l.Ok->yq l≠3/\yq l≠4:=by
    intro l h
    cases l with
    |use _ _=>exact ⟨(by decide:20≠3),(by decide:20≠4)⟩
    |anew l=>
     simp only[Ln.Ok,Ug,S7,WK] at h
     rcases h with rfl|rfl|rfl|rfl|rfl|rfl<;>exact ⟨by decide,by decide⟩
   unfold g8;rw[SI (this l hok).1,SI (this l hok).2]
  rw[this];rfl
 have i0:ff l.wr (.int 1)=KX (.tup []):=by cases l<;>rfl
 have i1:∃i t,ff l.wr (.int 0)=KX (.int i)/\ff ja (.int i)=KX (.tup [t,.bool R8,.str [120]]):=by
  cases l with
  |use _ _=>exact ⟨8,_,rfl,rfl⟩
  |anew l=>
   simp only[Ln.Ok,Ug,S7,WK] at hok
   rcases hok with rfl|rfl|rfl|rfl|rfl|rfl<;>exact ⟨_,_,rfl,rfl⟩
 obtain ⟨i,t,i2,i3⟩:=i1;have c1:dF .ne (.tup []) (.tup [])=KX false:=by kernel_rfl
 have c2:dF .jw (.str [120]) .none=KX true:=rfl;have g33:P.bW[33]? =KX (.fn 21):=rfl;rw[dE ⟨4,[],11,jm⟩ rfl rfl];refine R6 outF (a₂:=KX (.nx,[.fr (.ref 6),.fr<|tupI j,.fr<|.aQ F,.fr l.wr,.fr<|.ref 8,.un,.fr t,.fr<|.bool R8,.fr<|.str [120],.fr<|.int<|oJ l,.un],aB bx ls found lots)) ?_;refine s1 (ib (cH (cH (xv rfl) a37) a26) rfl)<|bp ?_;refine s1 (iU (iV (cD g33 (aH (xv rfl) br)<|e3 (n+97) _) rfl) nD)<|bp ?_;refine s1 (dh (qA<|cY (xv rfl) m25 (aH (xv rfl) br)<|e1<|n+56) ?_)<|bp s0;refine s1 (dh (fv (g9 (xv rfl) xc i0) (jc br) c1) ?_)<|bp s0;refine s1 (Fu (g9 (cH (cH (xv rfl) a15) a9) (g9 (xv rfl) xc i2) i3) rfl)<|bp ?_;refine s1 (ib (cY (xv rfl) m33 (aH (xv rfl) br)<|e2<|n+35) rfl)<|bp ?_;have nt:(ev P<|n+115).t (.not<|.v 7) [.fr (.ref 6),.fr<|tupI j,.fr<|.aQ F,.fr l.wr,.fr<|.ref 8,.un,.fr t,.fr<|.bool R8,.fr<|.str [120],.fr<|.int<|oJ l,.un] (aB bx ls found lots)=KX (Sj,aB bx ls found lots):=Fz (b:=R8)<|tv rfl;exact s1 (dh (uY<|jK (fv (xv rfl) xc c2)<|condT rfl (jK nt rfl)) s0)<|bp s0
end
noncomputable section
variable{bx:R5 AV}{ls:R5 Ln}{lots:R5 (SK×AV)}{found:R5 AV}
theorem vx(ls:R5 Ln)(F:R5 SK)(k j:Sf):(gw ls F k j).length<=2:=by
 have a:∀k,(my ls F k j).length<=1:=λk=>sA ..;unfold gw g8;rw[Sy];have:=a k
 split
 ·rw[TJ,TQ,SP];exact UO (a _) this
 ·split
  ·rw[TJ,TQ,SP];exact UO (a _) this
  ·exact Ss (SA<|SX _)<|Vc this
theorem Bj(k j:Sf):(gA k j).length<=1:=by unfold gA;split<;>simp
def iR(ls:R5 Ln)(j:Sf):R5 AV:=match ls[j]? with
 |some (.use mv k)=>gw ls (bT ls (aS ls) j) k j++if mv then gA k j else []
 |_=> []
set_option tactic.hygienic true in
theorem CQ(ls:R5 Ln)(j:Sf):(iR ls j).length<=3:=by
 unfold iR;generalize ls[j]? =o
 induction o using Sl with
 |none=>exact Ui _
 |some l=>
  induction l using Ln.casesOn with
  |anew a=>exact Ui _
  |use mv k=>
   dsimp only;rw[Sy]
   induction mv using Tb with
   |false=>exact Ss (vx ls (bT ls (aS ls) j) k j) (by decide)
   |true=>exact UO (vx ls (bT ls (aS ls) j) k j)<|Bj k j
noncomputable abbrev Ci:R5 MS:=[.iff (.cmp .eq (.idx (.v 3)<|.c<|.int 0)<|.c<|.str [99,111,110,115,116]) [.cont] [],.ex<|.aD (.v 0) 46 [(.v 1),(.v 2),(.idx (.v 3)<|.c<|.int 1)],.iff (.cmp .eq (.idx (.v 3)<|.c<|.int 0)<|.c<|.str [109,111,118,101]) [.ex (.aD (.v 0) 47 [(.v 1),(.idx (.v 3)<|.c<|.int 1)]),.iff (.aD (.aL (.aL (.v 0) 37) 26) 35 [(.idx (.v 3)<|.c<|.int 1)]) [.as 2 (.aD (.aL (.v 0) 37) 32 [(.v 2),(.aD (.aL (.aL (.v 0) 37) 26) 33 [(.idx (.v 3)<|.c<|.int 1)]),(.g 28)])] []] []]
abbrev iE(j:Sf)(F:R5 SK)(x3 x4 x5:SV):Loc:=[.fr (.ref 6),.fr<|tupI j,.fr<|.aQ F,x3,x4,x5,.un,.un,.un,.un]
theorem Gl{j a:Sf}{F:R5 SK}(n:Sf)(H:Hp):forL (ev P<|n+160) (.n 3) Ci [(Ln.anew a).op] (iE j F .un .un .un) H=KX (.nx,iE j F (.fr cst) .un .un,H):=by
 have o1:ff cst (.int 0)=KX sW:=rfl;have o3:dF .eq sW (.str [99,111,110,115,116])=KX true:=by kernel_rfl
 exact lh rfl (s1 (dh (fv (g9 (xv rfl) xc o1) xc o3)<|s1 Ht Hc) Hc) (Rd nD)
theorem Ja(h:LsOk ls){j k:Sf}{F:R5 SK}(hk:k<18)(hF:F.length<100)(hf:found.length<700)(hl:bh (aS ls) lots):
  ∃lots' x3,bh (aS ls) lots'/\∀n,forL (ev P<|n+160) (.n 3) Ci [(Ln.use Sj k).op] (iE j F .un .un .un) (aB bx ls found lots)=KX (.nx,iE j F x3 .un .un,aB bx ls (found++gw ls F k j) lots'):=by
 obtain ⟨l1,hl1,rd⟩:=DD (bx:=bx) (found:=found) h (show k<22 by lia) hF (by lia) hl;refine ⟨l1,.fr (Ln.use Sj k).op,hl1,λn=> ?_⟩;have o1:ff (Ln.use Sj k).op (.int 0)=KX tR:=rfl;have o2:ff (Ln.use Sj k).op (.int 1)=KX (aO k).pl:=rfl;have o3:dF .eq tR (.str [99,111,110,115,116])=KX false:=by kernel_rfl
 have o4:dF .eq tR (.str [109,111,118,101])=KX false:=by kernel_rfl
 have m46:bP P (aB bx ls found lots) (.ref 6) 46=KX 52:=rfl;refine lh rfl (s1 (dh (fv (g9 (xv rfl) xc o1) xc o3) s0)<|bp ?_) (vS nD);refine s1 (rM<|cY (xv rfl) m46 (aH (xv rfl)<|aH (xv rfl)<|aH (g9 (xv rfl) xc o2) br)<|rd<|n+3)<|bp ?_;exact s1 (dh (fv (g9 (xv rfl) xc o1) xc o4) s0)<|bp s0
theorem JQ(h:LsOk ls){j k:Sf}{F:R5 SK}(hk:k<18)(hF:F.length<100)(hf:found.length<700)(hl:bh (aS ls) lots):
  ∃lots' x3 F',bh (aS ls) lots'/\∀n,forL (ev P<|n+160) (.n 3) Ci [(Ln.use R8 k).op] (iE j F .un .un .un) (aB bx ls found lots)=KX (.nx,iE j F' x3 .un .un,aB bx ls (found++(gw ls F k j++gA k j)) lots'):=by
 have hT:aS ls∈Ts:=dj h.ok _;have hk22:k<22:=by lia
 obtain ⟨l1,hl1,rd⟩:=DD (found:=found) h hk22 hF (by lia) hl;have fl1:(found++gw ls F k j).length<900:=by have:=vx ls F k j;rw[Sy];exact Si (Y4 hf this) (by decide)
 have o1:ff (Ln.use R8 k).op (.int 0)=KX wC:=rfl;have o2:ff (Ln.use R8 k).op (.int 1)=KX (aO k).pl:=rfl;have o3:dF .eq wC (.str [99,111,110,115,116])=KX false:=by kernel_rfl
 have o4:dF .eq wC (.str [109,111,118,101])=KX true:=by kernel_rfl
 have m46:∀f l,bP P (aB bx ls f l) (.ref 6) 46=KX 52:=λu0 u1=>rfl;have m47:∀f l,bP P (aB bx ls f l) (.ref 6) 47=KX 53:=λu0 u1=>rfl;have a37:∀f l,cT P (aB bx ls f l) (.ref 6) 37=KX (.ref 7):=λu0 u1=>rfl;have a26:∀f l,cT P (aB bx ls f l) (.ref 7) 26=KX (.ref 8):=λu0 u1=>rfl;have m35:∀f l,bP P (aB bx ls f l) (.ref 8) 35=KX 36:=λu0 u1=>rfl;have m33:∀f l,bP P (aB bx ls f l) (.ref 8) 33=KX 35:=λu0 u1=>rfl;have m32:∀f l,bP P (aB bx ls f l) (.ref 7) 32=KX 41:=λu0 u1=>rfl;have e1:∀m f l,(ev P<|m+80).f 35 [.ref 8,(aO k).pl] (aB bx ls f l)=KX (.int<|dy (aS ls)<|bw k,aB bx ls f l):=λm f l=>t8 m hT hk22;have e2:∀m f l,(ev P<|m+80).f 36 [.ref 8,(aO k).pl] (aB bx ls f l)=KX (.bool<|fQ (aS ls) k,aB bx ls f l):=λm f l=>Av m hT hk22;have g28:P.bW[28]? =KX (.int 1):=rfl;rw[show found++(gw ls F k j++gA k j)=(found++gw ls F k j)++gA k j from(Tf ..).symm];have mvd:=λn=>IP (bx:=bx) (ls:=ls) (lots:=l1) (j:=j) hk fl1 n;have hr:∀{F' l2} n,(ev P<|n+157).s (.iff (.aD (.aL (.aL (.v 0) 37) 26) 35 [(.idx (.v 3)<|.c<|.int 1)]) [.as 2 (.aD (.aL (.v 0) 37) 32 [(.v 2),(.aD (.aL (.aL (.v 0) 37) 26) 33 [(.idx (.v 3)<|.c<|.int 1)]),(.g 28)])] []) (iE j F (.fr (Ln.use R8 k).op) .un .un) (aB bx ls ((found++gw ls F k j)++gA k j) l1)=KX (.nx,iE j F' (.fr (Ln.use R8 k).op) .un .un,aB bx ls ((found++gw ls F k j)++gA k j) l2)->
   forL (ev P<|n+158) (.n 3) Ci [(Ln.use R8 k).op] (iE j F .un .un .un) (aB bx ls found lots)=KX (.nx,iE j F' (.fr (Ln.use R8 k).op) .un .un,aB bx ls ((found++gw ls F k j)++gA k j) l2):=by intro F' l2 n hi;refine lh rfl (s1 (dh (fv (g9 (xv rfl) xc o1) xc o3) s0)<|bp ?_) (vS nD);refine s1 (rM<|cY (xv rfl) (m46 _ _) (aH (xv rfl)<|aH (xv rfl)<|aH (g9 (xv rfl) xc o2) br)<|rd<|n+1)<|bp ?_;refine s1 (dh (fv (g9 (xv rfl) xc o1) xc o4) ?_)<|bp s0;refine s1 (rM<|cY (xv rfl) (m47 _ _) (aH (xv rfl)<|aH (g9 (xv rfl) xc o2) br)<|mvd<|n+45)<|bp ?_;exact s1 hi<|bp s0
 cases hx:fQ (aS ls) k with
 |true=>
  rw[hx] at e2;obtain ⟨l2,hl2,tu⟩:=sg (mv:=lr ls) (s:=1) hT (tJ hT<|mj k hk22) hl1 hF (by decide)<|λu0=>rfl;refine ⟨l2,.fr (Ln.use R8 k).op,je (aS ls) F (dy (aS ls)<|bw k) 1,hl2,λn=>hr (n+2) ?_⟩;refine dh (qA<|cY (cH (cH (xv rfl)<|a37 _ _)<|a26 _ _) (m35 _ _) (aH (g9 (xv rfl) xc o2) br)<|e2 (n+76) _ _) ?_;have tu':=tu<|n+36;refine s1 (ib ?_ rfl)<|bp s0;refine cY (cH (xv rfl)<|a37 _ _) (m32 _ _) ?_ tu';exact aH (xv rfl)<|aH (cY (cH (cH (xv rfl)<|a37 _ _)<|a26 _ _) (m33 _ _) (aH (g9 (xv rfl) xc o2) br)<|e1 (n+75) _ _)<|aH (xg g28) br
 |false=>
  rw[hx] at e2;refine ⟨l1,.fr (Ln.use R8 k).op,F,hl1,λn=>hr (n+2) ?_⟩;exact dh (qA<|cY (cH (cH (xv rfl)<|a37 _ _)<|a26 _ _) (m35 _ _) (aH (g9 (xv rfl) xc o2) br)<|e2 (n+76) _ _) s0
end
noncomputable section
variable{bx:R5 AV}{ls:R5 Ln}{lots:R5 (SK×AV)}{found:R5 AV}
theorem H6(h:LsOk ls){j:Sf}{l:Ln}(hl:ls[j]? =KX l){F:R5 SK}{x3:SV}(n:Sf):bO (ev P<|n+163) [.as 4 (.aM 35 [(.aL (.v 0) 15),(.v 1)]),.iff (.cmp .jw (.v 4)<|.c .none) [.ex (.aD (.v 0) 46 [(.v 1),(.v 2),(.v 4)])] [],.as 5<|.aM 18 [(.aL (.v 0) 15),(.v 1)],.iff (.cmp .jw (.v 5)<|.c .none) [.ex (.aD (.v 0) 48 [(.v 1),(.v 2),(.v 5)])] []] (iE j F x3 .un .un) (aB bx ls found lots)=KX (.nx,iE j F x3 (.fr .none)<|.fr l.wr,aB bx ls found lots):=by
 have h8:=h.len;have hs:ls.length<900:=by exact Sb ‹_› (by decide)
 have a15:cT P (aB bx ls found lots) (.ref 6) 15=KX (ay ls):=rfl;have g35:P.bW[35]? =KX (.fn 25):=rfl;have g18:P.bW[18]? =KX (.fn 26):=rfl;have m48:bP P (aB bx ls found lots) (.ref 6) 48=KX 54:=rfl;refine s1 (ib (cD g35 (aH (cH (xv rfl) a15)<|aH (xv rfl) br)<|yU (n+121) _ hl hs) rfl)<|bp ?_;refine s1 (dh (fv (xv rfl) xc rfl) s0)<|bp ?_;refine s1 (ib (cD g18 (aH (cH (xv rfl) a15)<|aH (xv rfl) br)<|mf (n+121) _ hl hs) rfl)<|bp ?_;refine s1 (dh (fv (xv rfl) xc<|zD l) ?_)<|bp s0;exact s1 (rM<|cY (xv rfl) m48 (aH (xv rfl)<|aH (xv rfl)<|aH (xv rfl) br)<|Em h (h.ok l<|SM hl)<|n+40)<|bp s0
theorem Kl(h:LsOk ls){j:Sf}{l:Ln}(hl:ls[j]? =KX l)(hf:found.length<700)(hlt:bh (aS ls) lots):
  ∃lots' x3 F',bh (aS ls) lots'/\∀n,forL (ev P<|n+160) (.n 3) Ci [l.op] (iE j (bT ls (aS ls) j) .un .un .un) (aB bx ls found lots)=KX (.nx,iE j F' x3 .un .un,aB bx ls (found++iR ls j) lots'):=by
 have hT:aS ls∈Ts:=dj h.ok _;have hF:=(xV hT h j).len;have hok:=h.ok l<|SM hl;unfold iR;rw[hl]
 cases l with
 |use mv k=>
  cases mv with
  |true=>
   obtain ⟨l1,x3,F',hl1,run⟩:=JQ h hok hF hf hlt;exact ⟨l1,x3,F',hl1,run⟩
  |false=>
   obtain ⟨l1,x3,hl1,run⟩:=Ja h hok hF hf hlt;refine ⟨l1,x3,bT ls (aS ls) j,hl1,λn=> ?_⟩;simp only[Z8,if_false,SP];exact run n
 |anew a=>
  refine ⟨lots,.fr cst,bT ls (aS ls) j,hlt,λn=> ?_⟩;simp only[SP];exact Gl n _
theorem LR(h:LsOk ls){j:Sf}{l:Ln}(hl:ls[j]? =KX l)(hf:found.length<700)(hlt:bh (aS ls) lots):
  ∃lots',bh (aS ls) lots'/\∀n,(ev P<|n+164).f 56 [.ref 6,tupI j] (aB bx ls found lots)=KX (.none,aB bx ls (found++iR ls j) lots'):=by obtain ⟨l1,x3,F',hl1,run⟩:=Kl h hl hf hlt;refine ⟨l1,hl1,λn=> ?_⟩;have h8:=h.len;have hj:=(List.getElem?_eq_some_iff.mp hl).1;have a15:cT P (aB bx ls found lots) (.ref 6) 15=KX (ay ls):=rfl;have a37:cT P (aB bx ls found lots) (.ref 6) 37=KX (.ref 7):=rfl;have m45:bP P (aB bx ls found lots) (.ref 7) 45=KX 45:=rfl;have g17:P.bW[17]? =KX (.fn 20):=rfl;have w:dF .vv (.aQ<|bT ls (aS ls) j) .none=KX false:=rfl;rw[dE ⟨2,[],10,ik⟩ rfl rfl];refine R6 outF (a₂:=KX (.nx,iE j F' x3 (.fr .none)<|.fr l.wr,aB bx ls (found++iR ls j) l1)) ?_;refine s1 (ib (cY (cH (xv rfl) a37) m45 (aH (xv rfl) br)<|Kw (n+121)<|UD ‹_›) rfl)<|bp ?_;refine s1 (dh (fv (xv rfl) xc w) s0)<|bp ?_;refine s1 (iU (iV (cD g17 (aH (cH (xv rfl) a15)<|aH (xv rfl) br)<|k9 (n+121) _ ls j l hl<|Sb ‹_› (by decide)) rfl)<|run<|n+2)<|bp ?_;exact H6 h hl n
theorem A3(h:LsOk ls)(n:Sf):(ev P<|n+164).f 56 [.ref 6,tupI ls.length] (aB bx ls found lots)=KX (.none,aB bx ls found lots):=by
 have h8:=h.len;have hs:ls.length<900:=by exact Sb ‹_› (by decide)
 have a15:cT P (aB bx ls found lots) (.ref 6) 15=KX (ay ls):=rfl;have a37:cT P (aB bx ls found lots) (.ref 6) 37=KX (.ref 7):=rfl;have m45:bP P (aB bx ls found lots) (.ref 7) 45=KX 45:=rfl;have g17:P.bW[17]? =KX (.fn 20):=rfl;have g35:P.bW[35]? =KX (.fn 25):=rfl;have g18:P.bW[18]? =KX (.fn 26):=rfl;have w:dF .vv (.aQ<|bT ls (aS ls) ls.length) .none=KX false:=rfl;rw[dE ⟨2,[],10,ik⟩ rfl rfl];refine R6 outF (a₂:=KX (.nx,iE ls.length (bT ls (aS ls) ls.length) .un (.fr .none)<|.fr .none,aB bx ls found lots)) ?_;refine s1 (ib (cY (cH (xv rfl) a37) m45 (aH (xv rfl) br)<|Kw (n+121)<|SN _) rfl)<|bp ?_;refine s1 (dh (fv (xv rfl) xc w) s0)<|bp ?_;refine s1 (iU (iV (cD g17 (aH (cH (xv rfl) a15)<|aH (xv rfl) br)<|j9 (n+121) _ hs) rfl) nD)<|bp ?_;refine s1 (ib (cD g35 (aH (cH (xv rfl) a15)<|aH (xv rfl) br)<|wX (n+121) _ hs) rfl)<|bp ?_;refine s1 (dh (fv (xv rfl) xc rfl) s0)<|bp ?_;refine s1 (ib (cD g18 (aH (cH (xv rfl) a15)<|aH (xv rfl) br)<|kX (n+121) _ hs) rfl)<|bp ?_;exact s1 (dh (fv (xv rfl) xc rfl) s0)<|bp s0
def cX(ls:R5 Ln)(k:Sf):R5 AV:=(So k).flatMap<|iR ls
theorem nS(k:Sf):cX ls (k+1)=cX ls k++iR ls k:=by unfold cX;rw[Vz,XE,TJ,TQ,SP]
theorem Bm(ls:R5 Ln):∀k,(cX ls k).length<=3*k:=by
 intro k
 induction k with
 |zero=>
  simp[cX]
 |succ k ih=>
  rw[nS,Sy];have:=ih;have:=CQ ls k;exact UO ‹_› ‹_›
theorem vT(ls:R5 Ln):iR ls ls.length=[]:=by unfold iR;rw[TY (SN _)]
abbrev Cg(ls:R5 Ln)(fd:AV):HE:=.inst 3 [(15,.fr<|ay ls),(16,.fr<|.ref 2),(37,.fr<|.ref 7),(38,.fr fd)]
theorem Om(h:LsOk ls)(hl:bh (aS ls) lots):∃lots',∀n,(ev P<|n+168).f 57 [.ref 6] (aB bx ls [] lots)=KX (.lst<|cX ls<|ls.length+1,hp bx (Cg ls<|.lst<|cX ls<|ls.length+1) (lr ls)<|ba ls (ak<|aS ls) lots'):=by
 have h8:=h.len;have hs:ls.length<900:=by exact Sb ‹_› (by decide)
 obtain ⟨loc',H',⟨lots',x1,hl',rfl,rfl⟩,run⟩:=l5 (t:=.n 1) (b:=[.ex (.aD (.v 0) 49 [(.v 1)])])
  (J:=λk loc H=>∃lots x1,bh (aS ls) lots/\H=aB bx ls (cX ls k) lots/\loc=[.fr (.ref 6),x1,.un])
  (dW<|ls.length+1) 0 [.fr (.ref 6),.un,.un] (aB bx ls [] lots) (λj x hx loc H hJ=>by
   obtain ⟨lots,x1,hl,rfl,rfl⟩:=hJ;obtain ⟨hj,rfl⟩:=tQ hx;rw[SX];have hfl:=Bm ls j;have m49:bP P (aB bx ls (cX ls j) lots) (.ref 6) 49=KX 56:=rfl;have body:∃lots',bh (aS ls) lots'/\∀n,(ev P<|n+164).f 56 [.ref 6,tupI j] (aB bx ls (cX ls j) lots)=KX (.none,aB bx ls (cX ls<|j+1) lots'):=by
    rw[nS]
    by_cases hjl:j<ls.length
    ·exact LR h (S4 hjl) (Sb (Ss ‹_› (TH 3<|Ss (Uj hj) h8)) (by decide)) hl
    ·have e:j=ls.length:=yk hj hjl
     subst e;rw[vT,SP];exact ⟨lots,hl,λn=>A3 h n⟩
   obtain ⟨lots',hl',f⟩:=body;exact ⟨[.fr (.ref 6),.fr<|tupI j,.un],[.fr (.ref 6),.fr<|tupI j,.un],_,rfl,⟨lots',_,hl',rfl,rfl⟩,.inl λn=>s1 (rM<|cY (xv rfl) m49 (aH (xv rfl) br)<|f n)<|bp s0⟩) ⟨lots,.un,hl,rfl,rfl⟩;rw[show(dW<|ls.length+1).length=ls.length+1 from by simp[dW],SX] at run;refine ⟨lots',λn=> ?_⟩;have ol:aw (dW<|ls.length+1).length=true:=aY (by simp[dW];exact Sb ‹_› (by decide));have g16:P.bW[16]? =KX (.fn 14):=rfl;have a15:cT P (aB bx ls [] lots) (.ref 6) 15=KX (ay ls):=rfl;have a38:cT P (hp bx (Cg ls<|.lst<|cX ls<|ls.length+1) (lr ls)<|ba ls (ak<|aS ls) lots') (.ref 6) 38=KX (.lst<|cX ls<|ls.length+1):=rfl;have u38:cK P (aB bx ls (cX ls<|ls.length+1) lots') 6 38=KX (.ml<|cX ls<|ls.length+1):=rfl;have p38:dR (aB bx ls (cX ls<|ls.length+1) lots') 6 38 (.fr<|.lst<|cX ls<|ls.length+1)=KX (hp bx (Cg ls<|.lst<|cX ls<|ls.length+1) (lr ls)<|ba ls (ak<|aS ls) lots'):=rfl;have src:abw P (ev P<|n+166) (.e<|.aM 16 [(.aL (.v 0) 15)]) [.fr (.ref 6),.un,.un] (aB bx ls [] lots)=KX (dW<|ls.length+1,aB bx ls [] lots):=iV (cD g16 (aH (cH (xv rfl) a15) br)<|o8 (n+125) _ hs) ol;rw[dE ⟨1,[],3,lq⟩ rfl rfl];refine Vm (R6 outF (a₂:=KX (.rt<|.lst<|cX ls<|ls.length+1,[.fr (.ref 6),x1,.un],hp bx (Cg ls<|.lst<|cX ls<|ls.length+1) (lr ls)<|ba ls (ak<|aS ls) lots')) ?_)<|jZ _ _ _;refine s1 (iU src<|run n)<|bp ?_;refine s1 (KS (xv rfl) u38 rfl p38)<|bp ?_;exact s1 (qt<|cH (xv rfl) a38) lE
theorem xa(h:LsOk ls)(bx:R5 AV):∃H',∀n,(ev P<|n+250).f 58 [ay ls,.ref 2] [.box bx,.dead,dO,.dead,.dead,.dead]=KX (.lst<|cX ls<|ls.length+1,H'):=by obtain ⟨l1,hl1,ck⟩:=Ef h;obtain ⟨l2,all⟩:=Om h hl1;refine ⟨hp bx (Cg ls<|.lst<|cX ls<|ls.length+1) (lr ls)<|ba ls (ak<|aS ls) l2,λn=> ?_⟩;have g36:P.bW[36]? =KX (.cls 3):=rfl;have mk:mF P (ev P<|n+246) 3 [ay ls,.ref 2] [.box bx,.dead,dO,.dead,.dead,.dead]=KX (.ref 6,aB bx ls [] l1):=KZ rfl rfl (ck<|n+6);have m50:bP P (aB bx ls [] l1) (.ref 6) 50=KX 57:=rfl;rw[dE ⟨2,[],3,qO⟩ rfl rfl];exact Vm (R6 outF<|s1 (qt<|cY (t7 g36 (aH (xv rfl)<|aH (xv rfl) br) mk) m50 br<|all<|n+79) lE)<|jZ _ _ _
end
noncomputable section
theorem BU:(So 17).all λt=>(So 17).all λg=>(So 10).all λl=> !bD t g||bD t l==bD g l:=by decide+kernel
theorem vG{t g l:Sf}(ht:t<17)(hg:g<17)(hl:l<10)(h:bD t g=R8):bD t l=bD g l:=by
 have:=List.all_eq_true.mp (List.all_eq_true.mp (List.all_eq_true.mp BU t<|List.mem_range.mpr ht) g<|List.mem_range.mpr hg) l<|List.mem_range.mpr hl;rw[h] at this
 simpa using this
theorem Et:(So 17).all λu=>(So 17).all λt=>(So 17).all λg=> !(bD u t&&bD u g)||(bD t g||bD g t):=by decide+kernel
theorem Jf{u t g:Sf}(hu:u<17)(ht:t<17)(hg:g<17)(h1:bD u t=R8)(h2:bD u g=R8):bD t g=R8\/bD g t=true:=by
 have:=List.all_eq_true.mp (List.all_eq_true.mp (List.all_eq_true.mp Et u<|List.mem_range.mpr hu) t<|List.mem_range.mpr ht) g<|List.mem_range.mpr hg;rw[h1,h2] at this
 simpa using this
theorem Fo:(So 17).all λc=>([6,8,9,0]:R5 Sf).all λx=>(c==x|| !bD x c)&&(c==x|| !bD c x):=by decide+kernel
theorem jh{c x:Sf}(hc:c<17)(hx:x∈[6,8,9,0])(h:c≠x):bD x c=Sj/\bD c x=false:=by
 have:=List.all_eq_true.mp (List.all_eq_true.mp Fo c<|List.mem_range.mpr hc) x hx;rw[show(c==x)=Sj from beq_eq_false_iff_ne.mpr h] at this
 simpa using this
theorem sub_self(t:Sf):bD t t=true:=by unfold bD;rw[U1];rfl
variable{T:R5 Sf}{gone:R5 Sf}{F:R5 SK}
theorem KO(hT:T∈Ts)(h:Inv T gone F){c:Sf}(hc:c∈ak T)(hn:c∉ [0,6,8,9]):Inv T (gone++[c]) (je T F (cR c<|ak T) 1) where
 sub:=λg hg=>by
  rcases List.mem_append.mp hg with hg|hg
  ·exact h.sub g hg
  ·rw[List.mem_singleton.mp hg];exact ⟨hc,hn⟩
 mv:=λt ht=>by
  rw[kO hT ht hc (by simp) (by simp),h.mv t ht];constructor
  ·rintro(⟨_,g,hg,e⟩|⟨e,_⟩)
   ·exact ⟨g,Wc _ hg,e⟩
   ·exact ⟨c,V1 _<|.head _,e⟩
  ·rintro ⟨g,hg,e⟩
   cases hs:bD t c with
   |true=>exact .inr ⟨rfl,rfl⟩
   |false=>
    rcases List.mem_append.mp hg with hg|hg
    ·exact .inl ⟨rfl,g,hg,e⟩
    ·rw[List.mem_singleton.mp hg,hs] at e;cases e
 un:=λt ht hn'=>by
  rw[kO hT ht hc (by simp) (by simp)]
  rintro(⟨_,e⟩|⟨_,e⟩)
  ·exact h.un t ht hn' e
  ·exact TL e (by decide)
 n9:=by
  rw[kO hT (dK (by decide)) hc (by simp) (by simp)];refine .inl ⟨(jh (mlt hT hc) (by decide) ?_).1,h.n9⟩
  rintro rfl;exact hn (by decide)
theorem D1(hT:T∈Ts)(h:Inv T gone F){c:Sf}(hc:c<10)(hn:c≠9):Inv T (gone.filter λg=> !bD g c) (je T F (cR c<|ak T) 0) where
 sub:=λg hg=>h.sub g (List.mem_filter.mp hg).1
 mv:=λt ht=>by
  rw[kO hT ht (dK<|Si ‹_› (by decide)) (by simp) (by simp),h.mv t ht];constructor
  ·rintro(⟨n,g,hg,e⟩|⟨_,e⟩)
   ·refine ⟨g,List.mem_filter.mpr ⟨hg,?_⟩,e⟩
    rw[←vG (mlt hT ht) (mlt hT (h.sub g hg).1) hc e,n];rfl
   ·exact TL e (by decide)
  ·rintro ⟨g,hg,e⟩
   obtain ⟨hg,n⟩:=List.mem_filter.mp hg;refine .inl ⟨?_,g,hg,e⟩;rw[vG (mlt hT ht) (mlt hT (h.sub g hg).1) hc e]
   simpa using n
 un:=λt ht hn'=>by
  rw[kO hT ht (dK<|Si ‹_› (by decide)) (by simp) (by simp)]
  rintro(⟨_,e⟩|⟨_,e⟩)
  ·exact h.un t ht hn' e
  ·exact TL e (by decide)
 n9:=by rw[kO hT (dK (by decide)) (dK<|Si ‹_› (by decide)) (by simp) (by simp)];exact .inl ⟨(jh (Si ‹_› (by decide)) (by decide) hn).1,h.n9⟩
theorem A8(hT:T∈Ts)(h:Inv T gone F):Inv T gone (je T F 8 0):=by
 have:=D1 hT h (c:=8) (by decide) (by decide);rw[rg hT (by decide)] at this;rw[List.filter_eq_self.mpr] at this
 ·exact this
 ·intro g hg
  obtain ⟨a,b⟩:=h.sub g hg;rw[(jh (mlt hT a) (by decide) (by rintro rfl;exact b (by decide))).2];rfl
theorem nX{t:Sf}(h:t∈ak T):near (ak T) t=t:=by unfold near;rw[Sv (List.contains_iff_mem.mpr h)]
theorem HT:∀k<18,bw k∉ [0,6,8,9]:=by decide+kernel
theorem FQ(hT:T∈Ts)(h:Inv T gone F){l:Ln}(hok:l.Ok)(hm:∀k,l=.use R8 k->dZ k=Sj->bw k∈ak T):Inv T (nv gone l) (dC T F<|wz T l):=by
 cases l with
 |use mv k=>
  cases mv with
  |true=>
   show Inv T (if(R8&& !dZ k)=R8 then gone++[bw k] else gone) (dC T F<|(if fQ T k=R8 then [(dy T<|bw k,1)] else [])++[(8,0)])
   cases hc:dZ k with
   |true=>
    have e:fQ T k=false:=by unfold fQ;rw[hc];rfl
    rw[e];exact A8 hT h
   |false=>
    have hin:=hm k rfl hc;have e:fQ T k=true:=by unfold fQ;rw[hc,List.contains_iff_mem.mpr hin];rfl
    rw[e];have e2:dy T (bw k)=cR (bw k) (ak T):=by unfold dy;rw[nX hin]
    rw[e2];exact A8 hT<|KO hT h hin<|HT k hok
  |false=>exact A8 hT h
 |anew a=>
  have ha:=K7 _ hok;have:=D1 hT h ha.1 ha.2;rw[rg hT (Sw ha.1 (by decide))] at this;exact this
theorem Fy{t x:Sf}(h:x∈ak T):x∈ak (iX T t):=by
 rcases List.mem_append.mp h with h|h
 ·exact Wc _ h
 ·refine V1 _ ?_
  unfold iX
  repeat' split
  all_goals first|exact h|exact Wc _ h
set_option tactic.hygienic true in
theorem Ei{t:Sf}:t∈ak (iX T t):=by
 by_cases h:t<12
 ·exact dK h
 ·unfold ak iX
  refine V1 _ ?_;rw[SI h]
  split
  ·rename_i h;exact List.contains_iff_mem.mp h
  ·split
   ·rename_i h;subst h;split<;>simp
   ·simp
theorem DB{ls:R5 Ln}{x:Sf}:∀(d k:Sf),x∈ak (dN ls k)->x∈ak (dN ls<|k+d):=by
 intro d
 induction d with
 |zero=>
  intro k h;exact h
 |succ d ih=>
  intro k h;have h1:=ih k h
  cases e:ls[k+d]? with
  |some l=>rw[←Uh,kA e];exact Fy h1
  |none=>
   have:=List.getElem?_eq_none_iff.mp e;unfold dN at h1⊢;rw[VL (by(first|assumption|exact Vc ‹_›))] at h1⊢;exact h1
theorem Ft{ls:R5 Ln}{j k:Sf}(h:ls[j]? =KX (.use R8 k)):bw k∈ak (dN ls ls.length):=by
 have hj:=(List.getElem?_eq_some_iff.mp h).1;have h1:bw k∈ak (dN ls<|j+1):=by rw[kA h];exact Ei
 have:=DB (ls.length-(j+1)) (j+1) h1
 rwa [show j+1+(ls.length-(j+1))=ls.length from by exact Nat.add_sub_of_le ‹_›] at this
theorem JL{ls:R5 Ln}(h:LsOk ls):∀k,k<=ls.length->Inv (dN ls ls.length) (eB ls k) (bT ls (dN ls ls.length) k):=by
 intro k
 induction k with
 |zero=>
  intro O;rw[oX];exact inv_zero<|dj h.ok _
 |succ k ih=>
  intro hk;have ih:=ih<|SQ ‹_›;have e:=S4 ‹_›;rw[oS,oY e];have:kh ls (dN ls ls.length) k=wz (dN ls ls.length) ls[k]:=by unfold kh;rw[e]
  rw[this];exact FQ (dj h.ok _) ih (h.ok _<|SM e) λkk hl O=>Ft<|hl▸e
end
noncomputable section
variable{T:R5 Sf}{gone:R5 Sf}{F:R5 SK}
theorem Ae{ns:R5 Sf}{s:SK}:eH F ns s=[]↔∀q∈ns,3*(q:SK)+s∉F:=by unfold eH;rw[List.filter_eq_nil_iff];exact ⟨λh q hq hm=>h q hq<|List.contains_iff_mem.mpr hm,λh q hq hm=>h q hq<|List.contains_iff_mem.mp hm⟩
theorem nW(hT:T∈Ts){c:Sf}{s:SK}(hc:c∈ak T):eH F (d9 T<|cR c<|ak T) s=[]↔∀u∈ak T,bD u c=R8->¬ot T F u s:=by
 rw[Ae];constructor
 ·intro h u hu hs
  exact h _<|(uC hT hu hc).mpr hs
 ·intro h q hq
  obtain ⟨t,ht,rfl,hs⟩:=Jo hT hc hq;exact h t ht hs
theorem uE{c:Sf}{s:SK}:eH F [cR c (ak T)] s=[]↔¬ot T F c s:=by rw[Ae];exact ⟨λh=>h _<|.head _,λh q hq=>by rw[List.mem_singleton.mp hq];exact h⟩
theorem N2:(So 17).all λt=>match gQ t with
 |none=>decide (t<12)
 |some p=>decide (p<17)&&(decide (p<12)||decide ((gQ p).getD p<12))&&((So 17).all λg=>(g==t||bD t g==bD p g)&&(g==t||g==p||bD t g==bD ((gQ p).getD p) g)):=by decide+kernel
theorem xH(hT:T∈Ts){t:Sf}(ht:t<17)(hn:t∉ak T):near (ak T) t∈ak T/\∀g∈ak T,bD t g=bD (near (ak T) t) g:=by
 have h:=List.all_eq_true.mp N2 t<|List.mem_range.mpr ht;unfold near;rw[SI (by rw[Tt];exact hn)]
 cases hp:gQ t with
 |none=>
  rw[hp] at h;exact TL (dK<|Sa h) hn
 |some p=>
  rw[hp] at h;simp only[Ta,Xe,decide_eq_true_eq,Yj,List.mem_range,WM] at h;obtain ⟨⟨_,h2⟩,h3⟩:=h
  by_cases hpm:p∈ak T
  ·dsimp only
   rw[Sv (List.contains_iff_mem.mpr hpm)];refine ⟨hpm,λg hg=> ?_⟩
   rcases(h3 g<|mlt hT hg).1 with e|e
   ·exact TL (e▸hg) hn
   ·exact e
  ·dsimp only
   rw[SI (by rw[Tt];exact hpm)];have hr:(gQ p).getD p∈ak T:=by
    rcases h2 with h2|h2
    ·exact TL (dK h2) hpm
    ·exact dK h2
   refine ⟨hr,λg hg=> ?_⟩
   rcases(h3 g<|mlt hT hg).2 with(e|e)|e
   ·exact TL (e▸hg) hn
   ·exact TL (e▸hg) hpm
   ·exact e
theorem LK(hT:T∈Ts){t g:Sf}(hn:t∉ak T)(hg:g∈ak T):bD g t=false:=by
 cases e:bD g t with
 |false=>rfl
 |true=>
  unfold bD at e;simp only[Xe,WM] at e
  rcases e with(e|e)|e
  ·exact TL (e▸hg) hn
  ·exact TL (Fq hT hg e) hn
  ·cases hp:gQ g with
   |none=>rw[hp] at e;cases e
   |some p=>
    rw[hp] at e;exact TL (Fq hT (Fq hT hg hp) e) hn
def iy(gone:R5 Sf)(k:Sf):Bool:=gone.any λg=>bD (bw k) g||(!dZ k&&bD g (bw k))
theorem wu:∀k<22,bw k<17:=by decide+kernel
theorem IG:∀k<18,dZ k=R8->bw k<12:=by decide+kernel
theorem Cm:(So 17).all λt=>([0,8,9]:R5 Sf).contains t||match gQ t with
 |none=>R8
 |some p=> !([0,8,9]:R5 Sf).contains p&& !([0,8,9]:R5 Sf).contains ((gQ p).getD p):=by decide+kernel
theorem Gv{t:Sf}(ht:t<17)(hn:t∉ [0,8,9]):near (ak T) t∉ [0,8,9]:=by
 have h:=List.all_eq_true.mp Cm t<|List.mem_range.mpr ht;rw[show([0,8,9]).contains t=Sj from by rw[←TF,Tt];exact hn,WH] at h;unfold near
 split
 ·exact hn
 ·cases hp:gQ t with
  |none=>exact hn
  |some p=>
   rw[hp] at h;rw[Ta,Vb,Vb,←TF,←TF,Tt,Tt] at h;dsimp only
   split
   ·exact h.1
   ·exact h.2
theorem Dp(hT:T∈Ts)(h:Inv T gone F){k:Sf}(hk:k<18):eH F (jD T k) 1=[]↔iy gone k=false:=by
 have h17:=wu k<|Si ‹_› (by decide);have key:iy gone k=Sj↔¬∃g∈gone,bD (bw k) g=R8\/(dZ k=Sj/\bD g (bw k)=R8):=by unfold iy;rw[←TF,List.any_eq_true];simp only[Xe,Ta,Vb]
 rw[key];unfold jD
 by_cases hin:bw k∈ak T
 ·have e2:dy T (bw k)=cR (bw k) (ak T):=by unfold dy;rw[nX hin]
  rw[e2]
  cases hc:dZ k with
  |true=>
   have e:fQ T k=false:=by unfold fQ;rw[hc];rfl
   rw[e,SI (by decide),uE,h.mv _ hin];simp
  |false=>
   have e:fQ T k=true:=by unfold fQ;rw[hc,List.contains_iff_mem.mpr hin];rfl
   rw[e,Sv rfl,nW hT hin];constructor
   ·rintro h1 ⟨g,hg,h2|⟨_,h2⟩⟩
    ·exact h1 _ hin (sub_self _)<|(h.mv _ hin).mpr ⟨g,hg,h2⟩
    ·exact h1 g (h.sub g hg).1 h2<|(h.mv g (h.sub g hg).1).mpr ⟨g,hg,sub_self _⟩
   ·intro h1 u hu hs hst
    obtain ⟨g,hg,h2⟩:=(h.mv u hu).mp hst;refine h1 ⟨g,hg,?_⟩
    rcases Jf (mlt hT hu) h17 (mlt hT (h.sub g hg).1) hs h2 with h3|h3
    ·exact .inl h3
    ·exact .inr ⟨rfl,h3⟩
 ·have hc:dZ k=false:=by rw[←TF];intro hc;exact hin<|dK<|IG k hk hc
  have e:fQ T k=false:=by unfold fQ;rw[show(ak T).contains (bw k)=Sj from by rw[←TF,Tt];exact hin,Xr]
  obtain ⟨n1,n2⟩:=xH hT h17 hin;rw[e,SI (by decide)];unfold dy;rw[uE,h.mv _ n1];constructor
  ·rintro h1 ⟨g,hg,h2|⟨_,h2⟩⟩
   ·exact h1 ⟨g,hg,by rw[←n2 g (h.sub g hg).1];exact h2⟩
   ·rw[LK hT hin (h.sub g hg).1] at h2;exact bc h2
  ·rintro h1 ⟨g,hg,h2⟩
   exact h1 ⟨g,hg,.inl (by rw[n2 g (h.sub g hg).1];exact h2)⟩
theorem L5{u t:Sf}(hu:u<17)(ht:t<17)(hs:bD u t=R8)(hn:t∉ [0,8,9]):u∉ [0,8,9]:=by
 intro hx;have:∀x∈([0,8,9]),x∈([6,8,9,0]):=by decide
 by_cases e:t=u
 ·exact hn<|e▸hx
 ·rw[(jh ht (this u hx) e).1] at hs;exact bc hs
theorem Fw:∀k<18,bw k∉ [0,8,9]:=by decide+kernel
theorem Dk(hT:T∈Ts)(h:Inv T gone F){k:Sf}(hk:k<18):eH F (jD T k) 2=[]:=by
 have h17:=wu k<|Si ‹_› (by decide);have ht:=Fw k hk;unfold jD
 by_cases hx:fQ T k=R8
 ·rw[Sv hx]
  have hin:=by unfold fQ at hx;rw[Ta,Tt] at hx;exact hx.2
  have e2:dy T (bw k)=cR (bw k) (ak T):=by unfold dy;rw[nX hin]
  rw[e2,nW hT hin];exact λu hu hs=>h.un u hu<|L5 (mlt hT hu) h17 hs ht
 ·rw[SI hx]
  unfold dy;rw[uE];refine h.un _ ?_<|Gv h17 ht
  by_cases hin:bw k∈ak T
  ·rw[nX hin];exact hin
  ·exact(xH hT h17 hin).1
theorem zw(hT:T∈Ts){i:Sf}(hi:i=6\/i=9):jD T (jM i)=d9 T (cR i<|ak T):=by
 have hin:i∈ak T:=dK (by rcases hi with rfl|rfl<;>decide);have e1:=(uT i (by rcases hi with rfl|rfl<;>decide)).2;have e:fQ T (jM i)=true:=by
  unfold fQ;rw[e1,List.contains_iff_mem.mpr hin]
  rcases hi with rfl|rfl<;>rfl
 unfold jD dy;rw[e,e1,Sv rfl,nX hin]
theorem M9(hT:T∈Ts)(h:Inv T gone F)(j:Sf):gU F (jD T<|jM 6) j=[]:=by
 have hin:6∈ak T:=dK (by decide);have only:∀u∈ak T,bD u 6=R8->u=6:=λu hu hs=>by
  by_cases e:u=6
  ·exact e
  ·rw[(jh (mlt hT hu) (by decide) e).2] at hs;exact bc hs
 rw[zw hT (.inl rfl)];have h1:eH F (d9 T<|cR 6<|ak T) 1=[]:=by
  rw[nW hT hin];intro u hu hs;rw[only u hu hs,h.mv 6 hin]
  rintro ⟨g,hg,e⟩
  obtain ⟨a,b⟩:=h.sub g hg;rw[(jh (mlt hT a) (by decide) (by rintro rfl;exact b (by decide))).1] at e;cases e
 have h2:eH F (d9 T<|cR 6<|ak T) 2=[]:=by rw[nW hT hin];intro u hu hs;rw[only u hu hs];exact h.un 6 hin (by decide)
 unfold gU;rw[Sv h1,Sv h2]
theorem MX(hT:T∈Ts)(h:Inv T gone F)(j:Sf):gU F (jD T<|jM 9) j=[fU j lG]:=by
 have hin:9∈ak T:=dK (by decide);have only:∀u∈ak T,bD u 9=R8->u=9:=λu hu hs=>by
  by_cases e:u=9
  ·exact e
  ·rw[(jh (mlt hT hu) (by decide) e).2] at hs;exact bc hs
 rw[zw hT (.inr rfl)];have h1:eH F (d9 T<|cR 9<|ak T) 1=[]:=by
  rw[nW hT hin];intro u hu hs;rw[only u hu hs,h.mv 9 hin]
  rintro ⟨g,hg,e⟩
  obtain ⟨a,b⟩:=h.sub g hg;rw[(jh (mlt hT a) (by decide) (by rintro rfl;exact b (by decide))).1] at e;cases e
 have h2:eH F (d9 T<|cR 9<|ak T) 2≠ []:=by rw[Ne,nW hT hin];intro h2;exact h2 9 hin (sub_self _) h.n9
 unfold gU;rw[Sv h1,SI h2]
def ig(gone:R5 Sf):Ln->R5 (R5 Sf)
 |.use mv k=>(if k=4 then [lG] else [])++(if iy gone k then [jF] else [])++(if mv&&(dZ k||(aO k).fi) then [mQ] else [])
 |.anew _=> []
set_option tactic.hygienic true in
theorem Fi{ls:R5 Ln}(h:LsOk ls){j:Sf}{l:Ln}(hl:ls[j]? =KX l):iR ls j=(ig (eB ls j) l).map (fU j):=by
 have hT:aS ls∈Ts:=dj h.ok _;have hj:=(List.getElem?_eq_some_iff.mp hl).1;have inv:=JL h j<|SQ ‹_›;have hok:=h.ok l<|SM hl;unfold iR;rw[hl]
 cases l with
 |anew a=>rfl
 |use mv k=>
  have hk:=hok;have h2:=Dk hT inv hk;have h1:=Dp hT inv hk;have e1:my ls (bT ls (aS ls) j) k j=(if iy (eB ls j) k then [jF] else []).map (fU j):=by
   unfold my gU
   cases e:iy (eB ls j) k with
   |true=>
    rw[SI (by rw[h1,e];decide)];rfl
   |false=>
    rw[Sv (h1.mpr e),Sv h2];rfl
  have e2:(g8 k).flatMap (λi=>my ls (bT ls (aS ls) j) (jM i) j)=(if k=4 then [lG] else []).map (fU j):=by
   unfold g8
   split
   ·rename_i h3
    rw[TJ,TQ,SP,SI (by lia)];exact M9 hT inv j
   ·split
    ·rw[TJ,TQ,SP]
     exact MX hT inv j
    ·rfl
  show gw ls (bT ls (aS ls) j) k j++(if mv=R8 then gA k j else [])=_;unfold gw ig gA;rw[e1,e2,S3,S3]
  congr 1
  cases mv with
  |false=>rfl
  |true=>
   rw[abv,Sv rfl]
   split<;>rfl
def AR(ls:R5 Ln)(k:Sf):R5 AV:=(So k).flatMap λj=>match ls[j]? with
 |some l=>(ig (eB ls j) l).map<|fU j
 |none=> []
theorem Dq{ls:R5 Ln}(h:LsOk ls):cX ls (ls.length+1)=AR ls ls.length:=by rw[nS,vT,SP];unfold cX AR;rw[WT,WT];refine R6 List.flatten<|Wk λj hj=> ?_;have hj:=List.mem_range.mp hj;have e:=S4 hj;rw[Fi h e,e]
end
noncomputable section
noncomputable def sL(s:SK×SK):Prop:=0<=s.1/\0<=s.2/\s.2<2147483647
noncomputable abbrev eK(s:SK×SK):HE:=.box [.int s.1,.int s.2]
theorem uK(x:SK){y:SK}(h:0<y):fV .mod (.int x) (.int y)=KX (.int<|We x y):=SI<|Int.ne_of_gt ‹_›
theorem Hv(x:SK){y:SK}(h:0<y)(h2:cO y=R8):fV .fdiv (.int x) (.int y)=KX (.int<|Y6 x y):=Sv ⟨by exact Int.ne_of_gt ‹_›,h2⟩
theorem Aw(x:SK){y:SK}(h:cO y=R8):fV .mul (.int x) (.int y)=KX (.int<|x*y):=Sv h
theorem N7{n:Sf}{e:ME}{loc:Loc}{s:SK×SK}{v:SK}(hl:loc[0]? =KX (.fr<|.ref 0))(h:(ev P<|n+1).e e loc [eK s]=KX (.int v,[eK s])):(ev P<|n+2).s (.stB 0 (.c<|.int 0) e) loc [eK s]=KX (.nx,loc,[eK (v,s.2)]):=
 LU h hl xc rfl ⟨by decide,by simp,by simp⟩
theorem Nu{n:Sf}{e:ME}{loc:Loc}{s:SK×SK}{v:SK}(hl:loc[0]? =KX (.fr<|.ref 0))(h:(ev P<|n+1).e e loc [eK s]=KX (.int v,[eK s])):(ev P<|n+2).s (.stB 0 (.c<|.int 1) e) loc [eK s]=KX (.nx,loc,[eK (s.1,v)]):=
 LU h hl xc rfl ⟨by decide,by simp,by simp⟩
theorem yc{s:SK×SK}{t:SK}(hs:sL s)(ht:t=5\/t=7\/t=18):∃r s',sL s'/\0<=r/\r<t/\∀n,(ev P<|n+30).f 63 [.ref 0,.int t] [eK s]=KX (.int r,[eK s']):=by
 obtain ⟨sa,sb⟩:=s;obtain ⟨h0,h1,h2⟩:=hs;have tp:0<t:=by rcases ht with rfl|rfl|rfl<;>decide
 have tok:cO t=true:=by rcases ht with rfl|rfl|rfl<;>rfl
 have k0:(0:SK)<=0/\0<big:=⟨by decide,by decide⟩;have k1:(0:SK)<=1/\1<big:=⟨by decide,by decide⟩
 by_cases hp:0<sa
 ·refine ⟨We sa t,(Y6 sa t,sb),⟨Int.fdiv_nonneg h0<|Wr ‹_›,h1,h2⟩,VU _ tp,Wy _ tp,λn=> ?_⟩
  rw[dE ⟨2,[],4,nO⟩ rfl rfl];have c:=R6 KX<|Sz hp;have x0:∀m x2,(ev P<|m+5).e (.idx (.v 0)<|.c<|.int 0) [.fr (.ref 0),.fr<|.int t,x2,.un] [eK (sa,sb)]=KX (.int sa,[eK (sa,sb)]):=λm x2=>AA (xv rfl) xc rfl k0 rfl;have q:bO (ev P<|n+28) [.as 2 (.bin .mod (.aW .int [(.idx (.v 0)<|.c<|.int 0)])<|.v 1),.stB 0 (.c<|.int 0)<|.bin .fdiv (.idx (.v 0)<|.c<|.int 0)<|.v 1,.ret<|.v 2] [.fr (.ref 0),.fr<|.int t,.un,.un] [eK (sa,sb)]=KX (.rt<|.int<|We sa t,[.fr (.ref 0),.fr<|.int t,.fr<|.int<|We sa t,.un],[eK (Y6 sa t,sb)]):=by refine s1 (ib (ej (eM (aH (x0 (n+20) _) br) rfl) (xv rfl)<|uK sa tp) rfl)<|bp ?_;refine s1 (N7 rfl (ej (x0 (n+21) _) (xv rfl)<|Hv sa tp tok))<|bp ?_;exact s1 (qt<|xv rfl) lE
  exact Vm (R6 outF<|s1 (dh (fv (x0 (n+22) _) xc c) q) lE)<|jZ _ _ _
 ·let u:Int:=We (sb*39373+7) 2147483647
  have O:0<=u:=VU _ (by decide);have u1:u<2147483647:=Wy _ (by decide);have uk:cO u=true:=by unfold cO big;rw[Ta];exact ⟨Sz<|VF (by decide) O,Sz<|VF ‹_› (by decide)⟩
  refine ⟨We (Y6 (We (u*u) 2147483629) 32) t,(sa,u),⟨h0,O,u1⟩,VU _ tp,Wy _ tp,λn=> ?_⟩;rw[dE ⟨2,[],4,nO⟩ rfl rfl];have c:=R6 KX<|Un hp;have x0:∀m s x2,(ev P<|m+5).e (.idx (.v 0)<|.c<|.int 0) [.fr (.ref 0),.fr<|.int t,x2,.un] [eK s]=KX (.int s.1,[eK s]):=λm s x2=>AA (xv rfl) xc rfl k0 rfl;have x1:∀m s x2,(ev P<|m+5).e (.idx (.v 0)<|.c<|.int 1) [.fr (.ref 0),.fr<|.int t,x2,.un] [eK s]=KX (.int s.2,[eK s]):=λm s x2=>AA (xv rfl) xc rfl k1 rfl;refine Vm (R6 outF<|s1 (dh (fv (x0 (n+22) (sa,sb) _) xc c) s0)<|bp ?_)<|jZ _ [.fr (.ref 0),.fr<|.int t,.un,.un] _;refine s1 (Nu rfl (ej (eM (aH (ej (ej (x1 (n+19) (sa,sb) _) xc<|Aw sb rfl) xc rfl) br) rfl) xc<|uK _ (by decide)))<|bp ?_;exact s1 (qt<|ej (eM (aH (ej (ej (eM (aH (ej (x1 (n+17) (sa,u) _) (x1 (n+17) (sa,u) _)<|Aw u uk) br) rfl) xc<|uK _ (by decide)) xc<|Hv _ (by decide) rfl) br) rfl) (xv rfl)<|uK _ tp) lE
end
noncomputable section
theorem EU{xs:R5 SK}(hx:xs.length<=63):∃s,sL s/\∀n,Be P (ev P<|n+30) 62 [.lst (xs.map .int),.int 0] []=KX ([.int s.1,.int s.2],[]):=by
 have hlen:gO .len [.lst (xs.map .int)]=KX (.int xs.length):=by show(if aw (xs.map AV.int).length then KX (AV.int (xs.map AV.int).length) else Sd)=_;rw[Sr,aY<|Sb hx (by decide)];rfl
 have cell:∃c:SK,∀n (x2:SV),x2=.un->bO (ev P<|n+30) [.as 2 (.c<|.int 0),.iff (.cmp .lt (.v 1)<|.aW .len [(.v 0)]) [.as 2 (.idx (.v 0)<|.v 1)] []] [.fr (.lst<|xs.map .int),.fr<|.int 0,x2,.un,.un,.un,.un,.un] []=KX (.nx,[.fr (.lst<|xs.map .int),.fr<|.int 0,.fr<|.int c,.un,.un,.un,.un,.un],[]):=by
  cases xs with
  |nil=>
   refine ⟨0,λn x2 e=> ?_⟩;subst e;refine s1 (ib xc rfl)<|bp ?_;exact s1 (dh (fv (xv rfl) (eM (aH (xv rfl) br) hlen) rfl) s0)<|bp s0
  |cons x xs=>
   refine ⟨x,λn x2 e=> ?_⟩;subst e;refine s1 (ib xc rfl)<|bp ?_;refine s1 (dh (fv (xv rfl) (eM (aH (xv rfl) br) hlen)<|R6 KX<|Sz (by simp)) ?_)<|bp s0;exact s1 (ib (g9 (xv rfl) (xv rfl) rfl) rfl)<|bp s0
 obtain ⟨c,hc⟩:=cell
 let b:Int:=if c< -1-c then -1-c else c
 have hb:=by show 0<=(if c< -1-c then -1-c else c);split<;>lia
 let m:Int:=We ((We b 2147483629+7919*0*0+31*0+17)*48271) 2147483647
 have m0:0<=m:=VU _ (by decide);have m1:m<2147483647:=Wy _ (by decide);have hn:0<=b*(if decide (10^18<=b) then 1 else 0):=Int.mul_nonneg hb (by split<;>decide);refine ⟨(b*(if decide (10^18<=b) then 1 else 0),m),⟨hn,m0,m1⟩,λn=> ?_⟩;have e1:bO (ev P<|n+30) (nG.dropLast) [.fr (.lst<|xs.map .int),.fr<|.int 0,.un,.un,.un,.un,.un,.un] []=KX (.nx,[.fr (.lst<|xs.map .int),.fr<|.int 0,.fr<|.int c,.fr<|.int b,.fr<|.int m,.un,.un,.un],[]):=by refine pv (hc n _ rfl) ?_;refine s1 (ib (eM (aH (eM (aH (xv rfl) br) rfl)<|aH (eM (aH (ej (PQ xc) (xv rfl) rfl) br) rfl) br) rfl) rfl)<|bp ?_;exact s1 (ib (ej (eM (aH (ej (ej (ej (ej (ej (eM (aH (xv rfl) br) rfl) xc<|uK b (by decide)) (ej (ej xc (xv rfl) rfl) (xv rfl) rfl) rfl) (ej xc (xv rfl) rfl) rfl) xc rfl) xc<|Aw _ rfl) br) rfl) xc<|uK _ (by decide)) rfl)<|bp s0
 have e2:cq (ev P<|n+30) [(.bin .mul (.v 3)<|.aW .int [(.cmp .ge (.v 3)<|.bin .pow (.c<|.int 10)<|.c<|.int 18)]),(.v 4)] [.fr (.lst<|xs.map .int),.fr<|.int 0,.fr<|.int c,.fr<|.int b,.fr<|.int m,.un,.un,.un] []=KX ([.int (b*(if decide (10^18<=b) then 1 else 0)),.int m],[]):=by
  refine aH (ej (xv rfl) (eM (aH (Gw (xv rfl) (ej xc xc rfl) rfl) br) rfl)<|Aw _ ?_)<|aH (xv rfl) br
  split<;>rfl
 refine bj rfl (bj ((Sv ⟨SN 2,SN 2⟩).trans rfl) ?_);have q:∀{β:Type} {f:R5 ME->Sh β},MS.xj nG.getLast? f=f [(.bin .mul (.v 3)<|.aW .int [(.cmp .ge (.v 3)<|.bin .pow (.c<|.int 10)<|.c<|.int 18)]),(.v 4)]:=fun{β f}=>bj rfl rfl;exact q.trans<|g7 e1 e2
def tG(k w:Sf):Ln:=if w=4 then .anew (aO k).l.toNat else .use (w !=3) k
theorem IZ:∀k<18,∀w<5,(tG k w).Ok:=by
 intro k hk w hw;unfold tG
 split
 ·show(aO k).l.toNat∈[1,2,3,4,5,7]
  have:∀k<18,(aO k).l.toNat∈[1,2,3,4,5,7]:=by decide+kernel
  exact this k hk
 ·exact hk
theorem EM(n:Sf)(H:Hp):((So 18).map λk=>(So 5).map λw:Sf=>outF<|bO (ev P<|n+20) nT.tail [.fr (.ref 0),.fr (aO k).av,.fr<|.int w,.un,.un,.un,.un] H)=((So 18).map λk=>(So 5).map λw=>KX ((tG k w).av,H)):=by kernel_rfl
theorem HS{k:Sf}(hk:k<18):ff (.lst<|me.map Row.av) (.int k)=KX (aO k).av:=by have:((So 18).map λk:Sf=>(me.map Row.av)[k]?)=((So 18).map λk=>KX (aO k).av):=rfl;have h:=bA this<|List.mem_range.mpr hk;rw[wY,Sv ⟨VE _,DS<|Sw hk (by decide)⟩,UE];exact h
theorem Ou{s:SK×SK}(hs:sL s):∃k s',k<18/\sL s'/\∀n,(ev P<|n+40).f 64 [.ref 0,.lst<|me.map Row.av] [eK s]=KX ((aO k).av,[eK s']):=by obtain ⟨r,s',hs',r0,r1,run⟩:=yc hs (t:=18) (by decide);obtain ⟨k,rfl⟩:=UP r0;refine ⟨k,s',by lia,hs',λn=> ?_⟩;have g37:P.bW[37]? =KX (.fn 63):=rfl;have hl:gO .len [.lst (me.map Row.av)]=KX (.int 18):=rfl;rw[dE ⟨2,[],4,tS⟩ rfl rfl];exact Vm (R6 outF<|s1 (qt<|g9 (xv rfl) (cD g37 (aH (xv rfl)<|aH (eM (aH (xv rfl) br) hl) br)<|run<|n+6)<|HS (by lia)) lE)<|jZ _ _ _
theorem K4{s:SK×SK}(hs:sL s):∃l s',Ln.Ok l/\sL s'/\∀n,(ev P<|n+50).f 71 [.ref 0] [eK s]=KX (l.av,[eK s']):=by obtain ⟨k,sa,hk,hsa,one⟩:=Ou hs;obtain ⟨r,sb,hsb,r0,r1,tk⟩:=yc hsa (t:=5) (by decide);obtain ⟨w,rfl⟩:=UP r0;refine ⟨tG k w,sb,IZ k hk w (by lia),hsb,λn=> ?_⟩;have g37:P.bW[37]? =KX (.fn 63):=rfl;have g45:P.bW[45]? =KX (.fn 64):=rfl;have g46:P.bW[46]? =KX (.fn 68):=rfl;rw[dE ⟨1,[],7,nT⟩ rfl rfl];refine Vm (R6 outF<|s1 (Fu (v:=.tup [(aO k).av,.int w]) ?_ rfl)<|bp rfl)<|bA (bA (EM (n+29) [eK sb])<|List.mem_range.mpr hk)<|List.mem_range.mpr (by lia);exact jc<|aH (cD g45 (aH (xv rfl)<|aH (cD g46 br<|D2 (n+25) _) br)<|one<|n+6)<|aH (cD g37 (aH (xv rfl)<|aH xc br)<|tk<|n+16) br
end
noncomputable section
abbrev bF(g:Sf):AV:=.tup<|ei g
theorem K1(n:Sf)(H:Hp):((So 17).map λa=>(So 17).map λb=>(ev P<|n+20).f 69 [bF a,bF b] H)=((So 17).map λa=>(So 17).map λb=>KX (.bool<|bD a b,H)):=by kernel_rfl
theorem EC(n:Sf){a b:Sf}(ha:a<17)(hb:b<17)(H:Hp):(ev P<|n+20).f 69 [bF a,bF b] H=KX (.bool<|bD a b,H):=bA (bA (K1 n H)<|List.mem_range.mpr ha)<|List.mem_range.mpr hb
section
variable{r:Rec}{H:Hp}
theorem HH{α:Type}{i:Sf}{ifs:R5 ME}{elt:ME}{f:α->AV}{p:α->Sq}:∀(gs:R5 α) (acc:R5 AV) (loc:Loc),i<loc.length->acc.length+gs.length<1000->(∀g∈gs,iM r ifs (loc.set i<|.fr<|f g) H=KX (p g,H))->(∀g∈gs,r.e elt (loc.set i<|.fr<|f g) H=KX (f g,H))->
  eA r (.n i) ifs elt (gs.map f) acc loc H=KX (acc++(gs.filter p).map f,H):=by
 intro gs
 induction gs with
 |nil=>
  intro acc loc u2 u3 u4 u5;exact R6 (λl=>KX (l,H)) (SP acc).symm
 |cons g gs ih=>
  intro acc loc hi hl h1 h2;have et:gm (.n i) (f g) loc=KX (loc.set i<|.fr<|f g):=Sv hi;simp only[TC] at hl;have rc:=λacc' ha=>ih acc' (loc.set i<|.fr<|f g) (by simpa using hi) ha (λy hy=>by rw[WZ];exact h1 y<|.tail _ hy) (λy hy=>by rw[WZ];exact h2 y<|.tail _ hy);rw[T7]
  cases hp:p g with
  |true=>
   rw[kQ r et ((h1 g<|.head _).trans (by rw[hp])) (h2 g<|.head _) (aY<|Sb (S0 _ _) ‹_›),rc _ (by rw[Sy];exact Sb (SA<|TP _ _ _) hl),Zl hp,T7,Tf]
   rfl
  |false=>rw[w9 r et ((h1 g<|.head _).trans (by rw[hp])),rc _<|SQ ‹_›,WU (by rw[hp];decide)]
end
noncomputable abbrev K0:ME:=.or [(.aM 44 [(.v 4),(.v 1)]),(.and [(.not<|.v 3),(.aM 44 [(.v 1),(.v 4)])])]
theorem HY(n:Sf){t g:Sf}{c:Sq}(ht:t<17)(hg:g<17)(H:Hp):iM (ev P<|n+30) [K0] [.un,.fr<|bF g,.un,.fr<|.bool c,.fr<|bF t] H=KX (bD t g||(!c&&bD g t),H):=by
 have g44:P.bW[44]? =KX (.fn 69):=rfl;have hA:(ev P<|n+29).t (.aM 44 [(.v 4),(.v 1)]) [.un,.fr<|bF g,.un,.fr<|.bool c,.fr<|bF t] H=KX (bD t g,H):=tW<|cD g44 (aH (xv rfl)<|aH (xv rfl) br)<|EC (n+7) ht hg H;have hB:(ev P<|n+28).t (.aM 44 [(.v 1),(.v 4)]) [.un,.fr<|bF g,.un,.fr<|.bool c,.fr<|bF t] H=KX (bD g t,H):=tW<|cD g44 (aH (xv rfl)<|aH (xv rfl) br)<|EC (n+6) hg ht H;have hN:(ev P<|n+28).t (.not<|.v 3) [.un,.fr<|bF g,.un,.fr<|.bool c,.fr<|bF t] H=KX (!c,H):=Fz<|tv rfl;refine wo<|QZ<|Mg hA ?_
 cases bD t g with
 |true=>rfl
 |false=>
  refine Nb rfl (Mg (H1:=H) (b:= !c&&bD g t) (uY<|jK hN ?_) ?_)
  ·cases c with
   |true=>rfl
   |false=>
    refine condT rfl (jK hB ?_)
    cases bD g t<;>rfl
  ·cases (!c&&bD g t)<;>rfl
theorem I6(n:Sf){gone:R5 Sf}{t:Sf}{c:Sq}(ht:t<17)(hg:∀g∈gone,g<17)(hl:gone.length<900)(H:Hp):eA (ev P<|n+30) (.n 1) [K0] (.v 1) (gone.map bF) [] [.un,.un,.un,.fr<|.bool c,.fr<|bF t] H=KX ((gone.filter λg=>bD t g||(!c&&bD g t)).map bF,H):=by have:=HH (i:=1) (elt:=.v 1) gone [] [.un,.un,.un,.fr<|.bool c,.fr<|bF t] (by exact Sa rfl) (Sb (SA<|SX _)<|Sw hl (by decide)) (λg hg'=>HY n ht (hg g hg') H)<|λg O=>xv rfl;rw[Ua] at this;exact this
theorem C8:∀g<17,AV.plain 7 (bF g)=true:=by decide+kernel
theorem BS{gs:R5 Sf}(hg:∀g∈gs,g<17):(gs.map bF).all (AV.plain 7)=true:=by rw[Zt];exact List.all_eq_true.mpr λg h=>C8 g<|hg g h
noncomputable abbrev OQ:R5 MS:=[.asT (.t [(.n 3),(.n 4),(.n 5),(.n 6)]) (.v 1),
 .asT (.t [(.n 7),(.n 8)]) (.tup [(.tup [(.v 3),(.kH (.v 4)<|.v 5)]),(.cmp .lt (.v 5)<|.aW .len [(.v 4)])]),
 .asR 9 (.c<|.str [117,115,101,32,111,102,32,117,110,105,110,105,116,105,97,108,105,115,101,100]) (.aW .int [(.cmp .fi (.tup [(.c<|.str [105,110,100,101,120]),(.c<|.int 9)])<|.v 4)])]
abbrev BL(g:R5 Sf)(k:Sf)(mv:Sq)(x9:SV):Loc:=[.fr (.lst<|g.map bF),.fr (aO k).av,.fr<|.bool mv,.fr<|.int (aO k).l,.fr<|.tup (aO k).st,.fr<|.int (aO k).z,.fr<|.bool (aO k).fi,.fr<|bF<|bw k,.fr<|.bool<|dZ k,x9,.un,.un]
def lQ(k:Sf):R5 (R5 Sf):=if k=4 then [lG] else []
theorem JS(n:Sf)(x0 x2:SV)(H:Hp):((So 18).map λk=>bO (ev P<|n+20) OQ [x0,.fr (aO k).av,x2,.un,.un,.un,.un,.un,.un,.un,.un,.un] H)=
  ((So 18).map λk=>KX (.nx,[x0,.fr (aO k).av,x2,.fr<|.int (aO k).l,.fr<|.tup (aO k).st,.fr<|.int (aO k).z,.fr<|.bool (aO k).fi,.fr<|bF<|bw k,.fr<|.bool<|dZ k,.ml<|(lQ k).map .str,.un,.un],H)):=by kernel_rfl
noncomputable abbrev PF:ME:=.and [(.v 2),(.or [(.v 8),(.v 6)])]
theorem LY(n:Sf)(x0 x1 x3 x4 x5 x7 x9:SV)(H:Hp)(mv c i:Sq):(ev P<|n+10).e PF [x0,x1,.fr<|.bool mv,x3,x4,x5,.fr<|.bool i,x7,.fr<|.bool c,x9,.un,.un] H=KX (.bool<|mv&&(c||i),H):=by
 cases mv<;>cases c<;>cases i<;>kernel_rfl
theorem any_filter{α β:Type}(p:α->Sq)(f:α->β):∀gs:R5 α,(!((gs.filter p).map f).isEmpty)=gs.any p:=by
 intro gs
 induction gs with
 |nil=>
  exact rfl
 |cons g gs ih=>
  rw[UK,WG]
  cases p g with
  |true=>rfl
  |false=>exact ih
theorem LD(b:Sq)(x:AV):fV .mul (.lst [x]) (.int (if b then 1 else 0))=KX (.lst (if b then [x] else [])):=by cases b<;>rfl
theorem Cx{a b:R5 AV}(ha:a.length<900)(hb:b.length<900):fV .add (.lst a) (.lst b)=KX (.lst<|a++b):=by show(if aw a.length&&aw b.length then KX (AV.lst<|a++b) else Sd)=_;rw[aY (Si ‹_› (by decide)),aY<|Si ‹_› (by decide)];rfl
abbrev Ks:ME:=.comp [Sd,Sd,Sd,KX 8,KX 7] (.n 1) (.e<|.v 0) [K0] (.v 1)
theorem IV{gone:R5 Sf}{k:Sf}{mv:Sq}(hk:k<18)(hg:∀g∈gone,g<17)(hl:gone.length<900)(n:Sf):(ev P<|n+50).f 70 [.lst (gone.map bF),(aO k).av,.bool mv] []=KX (.lst<|(ig gone<|.use mv k).map .str,[]):=by
 have h17:=wu k<|Si ‹_› (by decide);have un:=bA (JS (n+29) (.fr<|.lst<|gone.map bF) (.fr<|.bool mv) [])<|List.mem_range.mpr hk;have cm:=I6 (n+16) (c:=dZ k) h17 hg hl [];have ol:aw (gone.map bF).length=true:=aY (by rw[Sr];exact Si ‹_› (by decide));have pf:((gone.filter λg=>bD (bw k) g||(!dZ k&&bD g (bw k))).map bF).all (AV.plain 7)=true:=BS λg h=>hg g (List.mem_filter.mp h).1;have ne:=ne_nil pf;rw[any_filter] at ne;have t:(ev P<|n+48).t (.cmp .ne Ks<|.lst []) (BL gone k mv<|.ml<|(lQ k).map .str) []=KX (iy gone k,[]):=fv (ph (iV (xv rfl) ol) rfl cm) (uH br) ne;have ul:(lQ k).length<=1:=by unfold lQ;split<;>simp
 let A:R5 (R5 Sf):=lQ k++if iy gone k then [jF] else []
 have al:=by
  show((lQ k++if iy gone k then [jF] else []).map AV.str).length<900;rw[Sr,Sy]
  split<;>simp<;>(first|exact Sb ‹_› (by decide)|exact Sb (S6 ‹_› _) (by decide))
 have e2:=by
  show(ev P<|n+49).s (.iff (.cmp .ne Ks<|.lst []) [.app 9 (.c<|.str jF)] []) (BL gone k mv<|.ml<|(lQ k).map .str) []=KX (.nx,BL gone k mv<|.ml<|(lQ k++if iy gone k then [jF] else []).map .str,[])
  cases hc:iy gone k with
  |true=>
   rw[hc] at t;refine dh t ?_;rw[Sv rfl,S3];exact s1 (AN xc rfl (aY (by rw[Sr];exact Sb ‹_› (by decide))))<|bp s0
  |false=>
   rw[hc] at t;rw[SI (by decide),SP];exact dh t s0
 rw[dE ⟨3,[],12,qB⟩ rfl rfl];have e3:bO (ev P<|n+49) (OQ++[.iff (.cmp .ne Ks<|.lst []) [.app 9 (.c<|.str jF)] [],.gH 9,.ret<|.bin .add (.v 9)<|.bin .mul (.lst [(.c<|.str mQ)])<|.aW .int [PF]]) [.fr (.lst<|gone.map bF),.fr (aO k).av,.fr<|.bool mv,.un,.un,.un,.un,.un,.un,.un,.un,.un] []=KX (.rt<|.lst (A.map .str++if(mv&&(dZ k||(aO k).fi)) then [.str mQ] else []),BL gone k mv<|.fr<|.lst<|A.map .str,[]):=by refine pv un ?_;refine s1 e2<|bp ?_;refine s1 (sE rfl rfl)<|bp ?_;exact s1 (qt<|ej (xv rfl) (ej (uH<|aH xc br) (eM (aH (LY (n+35) _ _ _ _ _ _ _ [] mv (dZ k) (aO k).fi) br) rfl)<|LD (mv&&(dZ k||(aO k).fi)) _)<|Cx al (by split<;>simp)) lE
 refine Vm (R6 outF e3) ?_;show KX (AV.lst ((lQ k++if iy gone k then [jF] else []).map .str++if(mv&&(dZ k||(aO k).fi)) then [.str mQ] else []),_)=KX (AV.lst<|((if k=4 then [lG] else [])++(if iy gone k then [jF] else [])++(if mv&&(dZ k||(aO k).fi) then [mQ] else [])).map .str,_);rw[S3,S3,S3]
 cases (mv&&(dZ k||(aO k).fi))<;>rfl
end
noncomputable section
noncomputable abbrev lw(x0 x1 x2 x3 x4 x5 x6 x7 x8 x9 x10 x11 x12:SV):Loc:=[x0,x1,x2,x3,x4,x5,x6,x7,x8,x9,x10,x11,x12,.un,.un,.un,.un,.un,.un,.un,.un,.un,.un,.un,.un]
theorem Qf{n:Sf}{i j g f:Sf}{l:R5 ME}{e:ME}{loc loc1 loc2:Loc}{H H1 H2 H3:Hp}{vs xs:R5 AV}{v:AV}(hg:P.bW[g]? =KX (.fn f))(h1:cq (ev P n) l loc H=KX (vs,H1))(h2:Be P (ev P n) f vs H1=KX (xs,H2))(h3:(ev P n).e e loc (H2++[.box xs])=KX (v,H3))(h4:fM loc i (.fr<|.ref H2.length)=KX loc1)(hn:¬i=j)(h5:fM loc1 j (.fr v)=KX loc2):(ev P<|n+1).s (.asB i j g l e) loc H=KX (.nx,loc2,H3):=bj hg<|aq h1<|aq h2<|aq h3<|bj h4<|(SI hn).trans<|map_eq h5
theorem Qx{n g f:Sf}{l:R5 ME}{loc:Loc}{H H1:Hp}{vs xs:R5 AV}(hg:P.bW[g]? =KX (.fn f))(h1:G2 (ev P n) l loc H=KX (vs,H1))(h2:vs.all (AV.noRef 8)=R8)(h3:(ev P n).f f vs []=KX (.lst xs,[]))(h4:(atoms xs&&aw xs.length)=R8):abw P (ev P n) (.cb g l) loc H=KX (xs,H1):=bj hg<|aq h1<|(Sv h2).trans<|aq h3<|Sv h4
def fw(ls:R5 Ln)(k:Sf):R5 (Sf×R5 Sf):=(So k).flatMap λj=>match ls[j]? with
 |some l=>(ig (eB ls j) l).map λkd=>(j,kd)
 |none=> []
def gz(p:Sf×R5 Sf):AV:=.tup [tupI p.1,.str p.2]
def xJ(p:Sf×R5 Sf):AV:=fU p.1 p.2
theorem vQ{ls:R5 Ln}{k:Sf}{l:Ln}(h:ls[k]? =KX l):fw ls (k+1)=fw ls k++(ig (eB ls k) l).map λkd=>(k,kd):=by unfold fw;rw[Vz,XE,TJ,TQ,SP,h]
theorem Ib(ls:R5 Ln)(k:Sf):AR ls k=(fw ls k).map xJ:=by
 unfold AR fw;rw[List.map_flatMap];rw[WT,WT];refine R6 List.flatten<|Wk λj O=> ?_
 cases ls[j]? with
 |none=>rfl
 |some l=>
  rw[UT];rfl
theorem su(g:R5 Sf)(l:Ln):(ig g l).length<=3:=by
 cases l with
 |anew a=>simp[ig]
 |use mv k=>
  unfold ig;rw[Sy,Sy];have a:∀(c:Prop) [X7 c] (x:R5 Sf),(if c then [x] else []).length<=1:=λc O x=>by split<;>simp
  exact UO (UO (a _ _)<|a _ _)<|a _ _
theorem xE(ls:R5 Ln):∀k,(fw ls k).length<=3*k:=by
 intro k
 induction k with
 |zero=>
  simp[fw]
 |succ k ih=>
  cases e:ls[k]? with
  |none=>
   have:fw ls (k+1)=fw ls k:=by unfold fw;rw[Vz,XE,TJ,TQ,SP,e,SP]
   rw[this];exact ZH ‹_›
  |some l=>
   rw[vQ e,Sy,Sr];have:=su (eB ls k) l;exact UO ‹_› ‹_›
def MY:Ln->Sf
 |.use _ k=>bw k
 |.anew a=>a
noncomputable abbrev wm:ME:=.tup [(.idx (.v 9)<|.c<|.int 0),(.kH (.idx (.v 9)<|.c<|.int 1)<|.idx (.v 9)<|.c<|.int 2)]
theorem Gg(n:Sf)(x0 x1 x2 x3 x4 x5 x6 x7 x8 x10 x11 x12:SV)(H:Hp):((So 18).map λk=>(ev P<|n+10).e wm (lw x0 x1 x2 x3 x4 x5 x6 x7 x8 (.fr (aO k).av) x10 x11 x12) H)=((So 18).map λk=>KX (bF<|bw k,H)):=by kernel_rfl
theorem E8(n:Sf)(x0 x1 x2 x3 x4 x5 x6 x7 x8 x10 x11 x12:SV)(H:Hp):(([1,2,3,4,5,7]:R5 Sf).map λa=>(ev P<|n+10).e wm (lw x0 x1 x2 x3 x4 x5 x6 x7 x8 (.fr (Ln.anew a).row) x10 x11 x12) H)=(([1,2,3,4,5,7]:R5 Sf).map λa=>KX (bF a,H)):=by kernel_rfl
theorem Cb(n:Sf){l:Ln}(hok:l.Ok)(x0 x1 x2 x3 x4 x5 x6 x7 x8 x10 x11 x12:SV)(H:Hp):(ev P<|n+10).e wm (lw x0 x1 x2 x3 x4 x5 x6 x7 x8 (.fr l.row) x10 x11 x12) H=KX (bF<|MY l,H):=by
 cases l with
 |use mv k=>exact bA (Gg n x0 x1 x2 x3 x4 x5 x6 x7 x8 x10 x11 x12 H)<|List.mem_range.mpr hok
 |anew a=>exact bA (E8 n x0 x1 x2 x3 x4 x5 x6 x7 x8 x10 x11 x12 H) hok
theorem DF(n:Sf)(x0 x1 x2 x3 x4 x5 x6 x7 x8 x10 x11 x12:SV)(H:Hp):((So 18).map λk=>(ev P<|n+10).t (.cmp .eq (.idx (.v 9)<|.c<|.int 2)<|.aW .len [(.idx (.v 9)<|.c<|.int 1)]) (lw x0 x1 x2 x3 x4 x5 x6 x7 x8 (.fr (aO k).av) x10 x11 x12) H)=((So 18).map λk=>KX (!dZ k,H)):=by kernel_rfl
end
noncomputable section
variable{ls:R5 Ln}{H:Hp}
noncomputable abbrev Kc:ME:=.not<|.aM 44 [(.v 1),(.v 3)]
theorem JH(n:Sf){gone:R5 Sf}{t:Sf}(ht:t<17)(hg:∀g∈gone,g<17)(hl:gone.length<900)(H:Hp):eA (ev P<|n+30) (.n 1) [Kc] (.v 1) (gone.map bF) [] [.un,.un,.un,.fr<|bF t] H=KX ((gone.filter λg=> !bD g t).map bF,H):=by have g44:P.bW[44]? =KX (.fn 69):=rfl;have:=HH (i:=1) (ifs:=[Kc]) (elt:=.v 1) gone [] [.un,.un,.un,.fr<|bF t] (by exact Sa rfl) (Sb (SA<|SX _)<|Sw hl (by decide)) (λg hg'=>wo<|Fz<|tW<|cD g44 (aH (xv rfl)<|aH (xv rfl) br)<|EC (n+7) (hg g hg') ht H)<|λg O=>xv rfl;rw[Ua] at this;exact this
abbrev Rm:ME:=.comp [Sd,Sd,Sd,KX 11] (.n 1) (.e<|.v 5) [Kc] (.v 1)
noncomputable abbrev OL:ME:=.comp [Sd,Sd,KX 7] (.n 1) (.cb 49 [(.v 5),(.v 9),(.cmp .eq (.v 10)<|.c<|.str [109,111,118,101])]) [] (.tup [(.tup [(.c<|.int 0),(.v 2)]),(.v 1)])
noncomputable abbrev OR:ME:=.and [(.cmp .eq (.v 10)<|.c<|.str [109,111,118,101]),(.cmp .eq (.idx (.v 9)<|.c<|.int 2)<|.aW .len [(.idx (.v 9)<|.c<|.int 1)])]
abbrev GY:R5 MS:=[.as 11 wm,.iff (.cmp .eq (.v 10)<|.c<|.str [97,110,101,119]) [.gH 5,.asC 5 Rm,.cont] [],.gH 6,.as 6<|.bin .add (.v 6) OL,.iff OR [.app 5 (.v 11)] []]
theorem FW(n:Sf){a j:Sf}{gone:R5 Sf}{st:AV}{x0 x1 x2 x3 x4 x6 x11 x12:SV}(ha:(Ln.anew a).Ok)(hg:∀g∈gone,g<17)(hl:gone.length<900):
  bO (ev P<|n+60) GY (lw x0 x1 x2 x3 x4 (.ml<|gone.map bF) x6 (.fr<|.int j) (.fr st) (.fr (Ln.anew a).row) (.fr (Ln.anew a).word) x11 x12) H=KX (.ct,lw x0 x1 x2 x3 x4 (.ml<|(nv gone<|.anew a).map bF) x6 (.fr<|.int j) (.fr st) (.fr (Ln.anew a).row) (.fr (Ln.anew a).word) (.fr<|bF a) x12,H):=by
 have a17:a<17:=Sw (K7 _ ha).1 (by decide);have c:dF .eq (Ln.anew a).word (.str [97,110,101,119])=KX true:=by kernel_rfl
 have ol:aw (gone.map bF).length=true:=aY (by rw[Sr];exact Si ‹_› (by decide));refine s1 (ib (Cb (n+49) ha _ _ _ _ _ _ _ _ _ _ _ _ H) rfl)<|bp ?_;refine s1 (dh (fv (xv rfl) xc c) ?_) Hc;refine s1 (sE rfl rfl)<|bp ?_;refine s1 (P4 (ph (iV (xv rfl) ol) rfl (JH (n+27) a17 hg hl H)) rfl)<|bp ?_;exact s1 Ht Hc
theorem CI:∀k<18,AV.noRef 8 (aO k).av=true:=by decide+kernel
theorem C1:∀g<17,AV.noRef 7 (bF g)=true:=by decide+kernel
theorem vf:∀l:R5 (R5 Sf),atoms (l.map .str)=R8
 |[]=>rfl
 |x::l=>vf l
theorem J3(n:Sf){k j:Sf}{mv:Sq}{gone:R5 Sf}{x0 x1 x2 x3 x4 x6 x8 x11 x12:SV}(hk:k<18)(hg:∀g∈gone,g<17)(hl:gone.length<900):
  (ev P<|n+60).e OL (lw x0 x1 x2 x3 x4 (.ml<|gone.map bF) x6 (.fr<|.int j) x8 (.fr (aO k).av) (.fr<|word mv) x11 x12) H=KX (.lst<|(ig gone<|.use mv k).map λkd=>gz (j,kd),H):=by
 have g49:P.bW[49]? =KX (.fn 70):=rfl;have cw:dF .eq (word mv) (.str [109,111,118,101])=KX mv:=by cases mv<;>kernel_rfl
 have dl:=su gone<|.use mv k;have nr:([.lst (gone.map bF),(aO k).av,.bool mv]).all (AV.noRef 8)=true:=by
  rw[Ze,Ze,Ze,List.all_nil,CI k hk,show AV.noRef 8 (.lst<|gone.map bF)=(gone.map bF).all (AV.noRef 7) from rfl,Zt];have:gone.all (AV.noRef 7∘bF)=true:=List.all_eq_true.mpr λg h=>C1 g<|hg g h;rw[this]
  rfl
 have eb:G2 (ev P<|n+59) [(.v 5),(.v 9),(.cmp .eq (.v 10)<|.c<|.str [109,111,118,101])] (lw x0 x1 x2 x3 x4 (.ml<|gone.map bF) x6 (.fr<|.int j) x8 (.fr (aO k).av) (.fr<|word mv) x11 x12) H=KX ([.lst (gone.map bF),(aO k).av,.bool mv],H):=by have:(ev P<|n+59).e (.cmp .eq (.v 10)<|.c<|.str [109,111,118,101]) (lw x0 x1 x2 x3 x4 (.ml<|gone.map bF) x6 (.fr<|.int j) x8 (.fr (aO k).av) (.fr<|word mv) x11 x12) H=KX (.bool mv,H):=Gw (xv rfl) xc cw;exact aq (bj rfl rfl)<|aq (aq (bj rfl rfl)<|aq (aq this<|aq rfl rfl) rfl) rfl
 have kd:(ev P<|n+59).f 70 [.lst (gone.map bF),(aO k).av,.bool mv] []=KX (.lst<|(ig gone<|.use mv k).map .str,[]):=IV hk hg hl<|n+9;have src:=Qx g49 eb nr kd (by rw[vf,aY (by rw[Sr];exact Sb ‹_› (by decide))];rfl);have cp:eA (ev P<|n+59) (.n 1) [] (.tup [(.tup [(.c<|.int 0),(.v 2)]),(.v 1)]) ((ig gone<|.use mv k).map .str) [] [.un,.un,.fr<|.int j] H=KX ([]++((ig gone<|.use mv k).map AV.str).map λx=> .tup [tupI j,x],H):=
  AU _ [] _ (Tn _) (by rw[Sr];simp;exact Sb ‹_› (by decide)) (λx O=>jc<|aH (jc<|aH xc<|aH (xv rfl) br)<|aH (xv rfl) br);rw[Ua,UT] at cp;exact ph src rfl cp
theorem EF{gone:R5 Sf}(hg:∀g∈gone,g<17){l:Ln}(hok:l.Ok):∀g∈nv gone l,g<17:=by
 intro g h
 cases l with
 |anew a=>exact hg g (List.mem_filter.mp h).1
 |use mv k=>
  have h:g∈if(mv&& !dZ k)=R8 then gone++[bw k] else gone:=h
  split at h
  ·rcases List.mem_append.mp h with h|h
   ·exact hg g h
   ·rw[List.mem_singleton.mp h];exact wu k<|Sw hok (by decide)
  ·exact hg g h
theorem En(gone:R5 Sf)(l:Ln):(nv gone l).length<=gone.length+1:=by
 cases l with
 |anew a=>exact Vc<|Xg ..
 |use mv k=>
  show(if(mv&& !dZ k)=R8 then gone++[bw k] else gone).length<=_
  split<;>simp
theorem E6(n:Sf){k j:Sf}{mv:Sq}{gone:R5 Sf}{st:AV}{due:R5 AV}{x0 x1 x2 x3 x4 x6 x11 x12:SV}(hk:k<18)(hg:∀g∈gone,g<17)(hl:gone.length<900)(h6:x6.frozen=KX (.lst due))(hd:due.length<800):
  bO (ev P<|n+63) GY (lw x0 x1 x2 x3 x4 (.ml<|gone.map bF) x6 (.fr<|.int j) (.fr st) (.fr (aO k).av) (.fr<|word mv) x11 x12) H=KX (.nx,lw x0 x1 x2 x3 x4 (.ml<|(nv gone<|.use mv k).map bF) (.fr<|.lst<|due++(ig gone<|.use mv k).map λkd=>gz (j,kd)) (.fr<|.int j) (.fr st) (.fr (aO k).av) (.fr<|word mv) (.fr<|bF<|bw k) x12,H):=by
 have cw:dF .eq (word mv) (.str [109,111,118,101])=KX mv:=by cases mv<;>kernel_rfl
 have ca:dF .eq (word mv) (.str [97,110,101,119])=KX false:=by cases mv<;>kernel_rfl
 have dl:=su gone<|.use mv k;have ol:aw (gone.map bF).length=true:=aY (by rw[Sr];exact Si ‹_› (by decide));refine s1 (ib (Cb (n+52) (l:=.use mv k) hk _ _ _ _ _ _ _ _ _ _ _ _ H) rfl)<|bp ?_;refine s1 (dh (fv (xv rfl) xc ca) s0)<|bp ?_;refine s1 (sE rfl h6)<|bp ?_;refine s1 (ib (ej (xv rfl) (J3 (n+1) hk hg hl)<|Cx (Si ‹_› (by decide)) (by rw[Sr];exact Sb ‹_› (by decide))) rfl)<|bp ?_;generalize due++(ig gone<|.use mv k).map (λkd=>gz (j,kd))=due2;have wh:=bA (DF (n+51) x0 x1 x2 x3 x4 (.ml<|gone.map bF) (.fr<|.lst due2) (.fr<|.int j) (.fr st) (.fr<|word mv) (.fr<|bF<|bw k) x12 H)<|List.mem_range.mpr hk;have t:(ev P<|n+62).t OR (lw x0 x1 x2 x3 x4 (.ml<|gone.map bF) (.fr<|.lst due2) (.fr<|.int j) (.fr st) (.fr (aO k).av) (.fr<|word mv) (.fr<|bF<|bw k) x12) H=KX (mv&& !dZ k,H):=by
  refine uY<|jK (fv (xv rfl) xc cw) ?_
  cases mv with
  |false=>rfl
  |true=>
   refine condT rfl (jK wh ?_)
   cases dZ k<;>rfl
 show _=KX (Fl.nx,lw x0 x1 x2 x3 x4 (.ml<|(if(mv&& !dZ k)=R8 then gone++[bw k] else gone).map bF) (.fr<|.lst due2) (.fr<|.int j) (.fr st) (.fr (aO k).av) (.fr<|word mv) (.fr<|bF<|bw k) x12,H)
 cases e:(mv&& !dZ k) with
 |true=>
  rw[e] at t;rw[Sv rfl,S3];refine s1 (dh t ?_)<|bp s0;exact s1 (AN (xv rfl) rfl ol)<|bp s0
 |false=>
  rw[e] at t;rw[SI (by decide)];exact s1 (dh t s0)<|bp s0
end
noncomputable section
variable{ls:R5 Ln}{H:Hp}
theorem Ju(xs:R5 AV):∀(k j:Sf),(jz k xs)[j]? =xs[j]?.map λx=>AV.tup [.int ((k+j:Sf):SK),x]:=by
 induction xs with
 |nil=>intro k j;rfl
 |cons x xs ih=>
  intro k j
  cases j with
  |zero=>rfl
  |succ j=>
   show(jz (k+1) xs)[j]? =xs[j]?.map _;rw[ih (k+1) j,show k+1+j=k+(j+1) from by exact TP _ _ _]
theorem Fv(xs:R5 AV):∀k,(jz k xs).length=xs.length:=by
 induction xs with
 |nil=>intro k;rfl
 |cons x xs ih=>intro k;show(jz (k+1) xs).length+1=_;rw[ih];rfl
theorem E3(h:∀l∈ls,l.Ok):∀k,(∀g∈eB ls k,g<17)/\(eB ls k).length<=k:=by
 intro k
 induction k with
 |zero=>
  exact ⟨λg hg=>(S7 hg).elim,SN _⟩
 |succ k ih=>
  obtain ⟨a,b⟩:=ih
  cases e:ls[k]? with
  |none=>
   have:=List.getElem?_eq_none_iff.mp e;have e2:eB ls (k+1)=eB ls k:=by unfold eB;rw[VL (Vc ‹_›),VL ‹_›]
   rw[e2];exact ⟨a,by exact Vc ‹_›⟩
  |some l=>
   rw[oY e];refine ⟨EF a<|h l<|SM e,?_⟩;have:=En (eB ls k) l;exact Ss this<|S6 b 1
abbrev QN:MS:=.for (.t [(.n 7),(.t [(.n 8),(.n 9),(.n 10)])]) (.enum<|.v 3) GY
theorem EI(h:LsOk ls){x0 x1 x2 x4 x12:SV}:∃x5 x6 x7 x8 x9 x10 x11,x6.frozen=KX (.lst<|(fw ls ls.length).map gz)/\
  ∀n,(ev P<|n+64).s QN (lw x0 x1 x2 (.fr<|.lst<|ls.map Ln.av) x4 (.ml []) (.ml []) .un .un .un .un .un x12) H=KX (.nx,lw x0 x1 x2 (.fr<|.lst<|ls.map Ln.av) x4 x5 x6 x7 x8 x9 x10 x11 x12,H):=by
 have h8:=h.len;obtain ⟨loc',H',⟨x6,x7,x8,x9,x10,x11,hx6,rfl,rfl⟩,run⟩:=l5 (R:=λm=>ev P<|m+63) (t:=.t [(.n 7),(.t [(.n 8),(.n 9),(.n 10)])]) (b:=GY)
  (J:=λj loc H'=>∃x6 x7 x8 x9 x10 x11,x6.frozen=KX (.lst<|(fw ls j).map gz)/\H'=H/\loc=lw x0 x1 x2 (.fr<|.lst<|ls.map Ln.av) x4 (.ml<|(eB ls j).map bF) x6 x7 x8 x9 x10 x11 x12)
  (jz 0<|ls.map Ln.av) 0 (lw x0 x1 x2 (.fr<|.lst<|ls.map Ln.av) x4 (.ml []) (.ml []) .un .un .un .un .un x12) H (λj x hx loc H' hJ=>by
   obtain ⟨x6,x7,x8,x9,x10,x11,hx6,rfl,rfl⟩:=hJ;rw[SX] at hx6⊢;rw[Ju,S1,SX] at hx
   cases e:ls[j]? with
   |none=>rw[e] at hx;exact au hx
   |some l=>
    rw[e] at hx;obtain rfl:=R9 hx;have hok:=h.ok l<|SM e;obtain ⟨hg,hl⟩:=E3 h.ok j;have hj:=(List.getElem?_eq_some_iff.mp e).1;have hd:=xE ls j;rw[oY e,vQ e,S3]
    cases l with
    |anew a=>
     exact ⟨lw x0 x1 x2 (.fr<|.lst<|ls.map Ln.av) x4 (.ml<|(eB ls j).map bF) x6 (.fr<|.int j) (.fr (Ln.anew a).st) (.fr (Ln.anew a).row) (.fr (Ln.anew a).word) x11 x12,lw x0 x1 x2 (.fr<|.lst<|ls.map Ln.av) x4 (.ml<|(nv (eB ls j)<|.anew a).map bF) x6 (.fr<|.int j) (.fr (Ln.anew a).st) (.fr (Ln.anew a).row) (.fr (Ln.anew a).word) (.fr<|bF a) x12,H',rfl,⟨x6,_,_,_,_,_,by rw[hx6];simp[ig],rfl,rfl⟩,.inr λn=>FW (n+3) hok hg<|Sb (Ss hl<|Ss (SQ hj) h8) (by decide)⟩
    |use mv k=>
     refine ⟨lw x0 x1 x2 (.fr<|.lst<|ls.map Ln.av) x4 (.ml<|(eB ls j).map bF) x6 (.fr<|.int j) (.fr (Ln.use mv k).st) (.fr (aO k).av) (.fr<|word mv) x11 x12,_,H',rfl,⟨_,_,_,_,_,_,?_,rfl,rfl⟩,.inl λn=>E6 n hok hg (Sb (Ss hl<|Ss (SQ hj) h8) (by decide)) hx6 (by rw[Sr];exact Sb (Ss hd<|TH 3<|Ss (SQ hj) h8) (by decide))⟩;rw[UT];rfl) ⟨_,_,_,_,_,_,rfl,rfl,rfl⟩;rw[Fv,Sr,SX] at hx6 run;refine ⟨.ml<|(eB ls ls.length).map bF,x6,x7,x8,x9,x10,x11,hx6,λn=> ?_⟩;exact iU (Qb (xv rfl)<|aY (by rw[Sr];exact Sb ‹_› (by decide)))<|run n
noncomputable abbrev QQ:MS:=.for (.n 4) (.rng<|.bin .add (.c<|.int 1)<|.aM 37 [(.v 1),(.c<|.int 7)]) [.app 3 (.aM 48 [(.v 1)])]
abbrev iA:AV:=.lst<|me.map Row.av
theorem draw{s:SK×SK}(hs:sL s){x0 x5 x6 x7 x8 x9 x10 x11 x12:SV}:∃ls s' x4,LsOk ls/\
  ∀n,(ev P<|n+60).s QQ (lw x0 (.fr<|.ref 0) (.fr iA) (.ml [(Ln.use R8 10).av]) .un x5 x6 x7 x8 x9 x10 x11 x12) [eK s]=KX (.nx,lw x0 (.fr<|.ref 0) (.fr iA) (.ml<|ls.map Ln.av) x4 x5 x6 x7 x8 x9 x10 x11 x12,[eK s']):=by
 obtain ⟨r,sa,hsa,r0,r1,tk⟩:=yc hs (t:=7) (by decide);obtain ⟨m,rfl⟩:=UP r0;have g48:P.bW[48]? =KX (.fn 71):=rfl;have g37:P.bW[37]? =KX (.fn 63):=rfl;obtain ⟨loc',H',⟨ls,s',x4,hs',hlen,hok,hfst,rfl,rfl⟩,run⟩:=l5 (t:=.n 4) (b:=[.app 3 (.aM 48 [(.v 1)])])
  (J:=λj loc H'=>∃ls s x4,sL s/\ls.length=j+1/\(∀l∈ls,Ln.Ok l)/\ls[0]? =KX (.use R8 10)/\H'=[eK s]/\loc=lw x0 (.fr<|.ref 0) (.fr iA) (.ml<|ls.map Ln.av) x4 x5 x6 x7 x8 x9 x10 x11 x12)
  ((So<|1+m).map λi:Sf=>AV.int i) 0 (lw x0 (.fr<|.ref 0) (.fr iA) (.ml [(Ln.use R8 10).av]) .un x5 x6 x7 x8 x9 x10 x11 x12) [eK sa] (λj x hx loc H' hJ=>by
   obtain ⟨ls,s,x4,hs,hlen,hok,hfst,rfl,rfl⟩:=hJ;rw[SX] at hlen⊢;have hj:=by
    have:=(List.getElem?_eq_some_iff.mp hx).1
    simpa using this
   obtain ⟨l,s',hl,hs',run⟩:=K4 hs;refine ⟨lw x0 (.fr<|.ref 0) (.fr iA) (.ml<|ls.map Ln.av) (.fr x) x5 x6 x7 x8 x9 x10 x11 x12,lw x0 (.fr<|.ref 0) (.fr iA) (.ml<|(ls++[l]).map Ln.av) (.fr x) x5 x6 x7 x8 x9 x10 x11 x12,[eK s'],rfl,⟨ls++[l],s',_,hs',by rw[Sy];simp;assumption,?_,?_,rfl,rfl⟩,.inl λn=> ?_⟩
   ·intro y hy
    rcases List.mem_append.mp hy with hy|hy
    ·exact hok y hy
    ·rw[List.mem_singleton.mp hy];exact hl
   ·rw[TV (by lia)];exact hfst
   ·rw[S3]
    exact s1 (AN (cD g48 (aH (xv rfl) br)<|run<|n+7) rfl (aY (by rw[Sr,hlen];exact Sw (Yt<|Sw hj<|XJ (Int.ofNat_lt.mp r1) 1) (by decide))))<|bp s0) ⟨[.use R8 10],sa,.un,hsa,rfl,by intro l hl;rw[List.mem_singleton.mp hl];exact(by decide:10<18),rfl,rfl,rfl⟩;rw[Sr,X5,SX] at hlen;refine ⟨ls,s',x4,⟨hok,hfst,Ss (SA hlen)<|WW<|Ss (SA<|VT 1 m)<|Int.ofNat_lt.mp r1⟩,λn=> ?_⟩;have e1:fV .add (.int 1) (.int m)=KX (.int<|(1+m)):=rfl;have src:abw P (ev P<|n+59) (.rng<|.bin .add (.c<|.int 1)<|.aM 37 [(.v 1),(.c<|.int 7)]) (lw x0 (.fr<|.ref 0) (.fr iA) (.ml [(Ln.use R8 10).av]) .un x5 x6 x7 x8 x9 x10 x11 x12) [eK s]=KX ((So<|1+m).map λi:Sf=>AV.int i,[eK sa]):=by rw[←jP];exact BG (ej xc (cD g37 (aH (xv rfl)<|aH xc br)<|tk<|n+27) e1)<|gW<|Sw (XJ (Int.ofNat_lt.mp r1) 1) (by decide)
 exact iU src<|run n
end
noncomputable section
variable{ls:R5 Ln}{H:Hp}
theorem Lm(n:Sf):∀(ps:R5 (Sf×R5 Sf)) (acc:R5 AV) (a b c:SV),acc.length+ps.length<1000->eA (ev P<|n+4) (.t [(.n 1),(.n 2)]) [] (.tup [(.v 1),(.aL (.v 2) 64)]) (ps.map xJ) acc [a,b,c] H=KX (acc++ps.map gz,H):=by
 intro ps
 induction ps with
 |nil=>exact λacc a b c u5=>R6 (λl=>KX (l,H)) (SP acc).symm
 |cons p ps ih=>
  intro acc a b c hl;have e:(ev P<|n+4).e (.tup [(.v 1),(.aL (.v 2) 64)]) [a,.fr<|tupI p.1,.fr<|.m9 p.2] H=KX (gz p,H):=jc<|aH (xv rfl)<|aH (cH (xv rfl) rfl) br;have et:gm (.t [(.n 1),(.n 2)]) (xJ p) [a,b,c]=KX [a,.fr<|tupI p.1,.fr<|.m9 p.2]:=rfl;rw[T7];rw[kQ _ et rfl e (aY<|Sb (S0 _ _) ‹_›),ih _ _ _ _ (by rw[Sy];exact Sb (SA<|TP _ _ _) hl),Tf]
  rfl
theorem Ke(n:Sf):∀(ls:R5 Ln) (acc:R5 AV) (a b c d:SV),acc.length+ls.length<1000->eA (ev P<|n+4) (.t [(.n 1),(.n 2),(.n 3)]) [] (.v 1) (ls.map Ln.av) acc [a,b,c,d] H=KX (acc++ls.map Ln.st,H):=by
 intro ls
 induction ls with
 |nil=>exact λacc a b c d u5=>R6 (λl=>KX (l,H)) (SP acc).symm
 |cons l ls ih=>
  intro acc a b c d hl;have e:(ev P<|n+4).e (.v 1) [a,.fr l.st,.fr l.row,.fr l.word] H=KX (l.st,H):=xv rfl;have et:gm (.t [(.n 1),(.n 2),(.n 3)]) l.av [a,b,c,d]=KX [a,.fr l.st,.fr l.row,.fr l.word]:=rfl;rw[T7];rw[kQ _ et rfl e (aY<|Sb (S0 _ _) ‹_›),ih _ _ _ _ _ (by rw[Sy];exact Sb (SA<|TP _ _ _) hl),Tf]
  rfl
theorem Cj{f:AV->AV->Sq}:∀{l:R5 AV},(∀x∈l,f x x=R8)->yB f l l=true:=by
 intro l
 induction l with
 |nil=>
  intro O;exact rfl
 |cons x l ih=>
  intro h;show(f x x&&yB f l l)=R8;rw[h x (.head _),ih λy hy=>h y<|.tail _ hy];rfl
theorem Ee(p:Sf×R5 Sf)(hp:p.2=lG\/p.2=jF\/p.2=mQ):AV.plain 7 (gz p)=R8/\AV.beq 7 (gz p) (gz p)=true:=by
 obtain ⟨j,kd⟩:=p;have e:AV.beq 7 (gz (j,kd)) (gz (j,kd))=((decide (0=0)&&(decide ((j:SK)=j)&&R8))&&(decide (kd=kd)&&R8)):=rfl;refine ⟨?_,by rw[e];simp⟩
 rcases hp with rfl|rfl|rfl<;>kernel_rfl
theorem FA(g:R5 Sf)(l:Ln):∀kd∈ig g l,kd=lG\/kd=jF\/kd=mQ:=by
 intro kd h
 cases l with
 |anew a=>exact(S7 h).elim
 |use mv k=>
  rcases List.mem_append.mp h with h|h
  ·rcases List.mem_append.mp h with h|h
   ·split at h
    ·exact .inl<|List.mem_singleton.mp h
    ·exact(S7 h).elim
   ·split at h
    ·exact .inr<|.inl<|List.mem_singleton.mp h
    ·exact(S7 h).elim
  ·split at h
   ·exact .inr<|.inr<|List.mem_singleton.mp h
   ·exact(S7 h).elim
theorem EA(ls:R5 Ln)(k:Sf):∀p∈fw ls k,p.2=lG\/p.2=jF\/p.2=mQ:=by
 intro p h;obtain ⟨j,_,h⟩:=List.mem_flatMap.mp h
 split at h
 ·obtain ⟨kd,hk,rfl⟩:=List.mem_map.mp h
  exact FA _ _ kd hk
 ·exact(S7 h).elim
theorem Kv(ls:R5 Ln)(k:Sf):dF .eq (.lst<|(fw ls k).map gz) (.lst<|(fw ls k).map gz)=KX true:=by
 have hm:=EA ls k;have pl:((fw ls k).map gz).all (AV.plain 7)=true:=by rw[Zt];exact List.all_eq_true.mpr λp h=>(Ee p<|hm p h).1
 show tw _ _=_;unfold tw;rw[Sv (by rw[show AV.plain 8 (.lst<|(fw ls k).map gz)=((fw ls k).map gz).all (AV.plain 7) from rfl,pl];rfl)];refine R6 KX ?_;refine Cj λx hx=> ?_;obtain ⟨p,hp,rfl⟩:=List.mem_map.mp hx;exact(Ee p<|hm p hp).2
theorem Ni(n:Sf)(b:R5 AV)(ls:R5 Ln):mF P (ev P<|n+20) 0 [.str [103],.int 7,ja,ke ls] [.box b]=KX (ay ls,[.box b,.dead]):=by kernel_rfl
theorem IA(n:Sf)(x0 x1 x3:SV)(H:Hp):(ev P<|n+20).s (.asL 3 [(.lst [(.tup [(.c<|.str [97,115,115,105,103,110]),(.tup [(.c<|.int 8),(.tup [])]),(.tup [(.c<|.str [117,115,101]),(.tup [(.c<|.str [109,111,118,101]),(.tup [(.c<|.int 4),(.idx (.idx (.v 2)<|.c<|.int 10)<|.c<|.int 1)])])])]),(.idx (.v 2)<|.c<|.int 10),(.c<|.str [109,111,118,101])])]) (lw x0 x1 (.fr iA) x3 .un .un .un .un .un .un .un .un .un) H=KX (.nx,lw x0 x1 (.fr iA) (.ml [(Ln.use R8 10).av]) .un .un .un .un .un .un .un .un .un,H):=by kernel_rfl
theorem JA{xs:R5 SK}(hx:xs.length<=63):∃H',∀n,(ev P<|n+300).f 72 [.lst (xs.map .int)] []=KX (.bool R8,H'):=by
 obtain ⟨s,hs,pool⟩:=EU hx;obtain ⟨ls,sa,x4,h,dr⟩:=draw hs;obtain ⟨x5,x6,x7,x8,x9,x10,x11,h6,lp⟩:=EI h;obtain ⟨H',uf⟩:=xa h [.int sa.1,.int sa.2];have h8:=h.len;have dl:=xE ls ls.length;rw[Dq h,Ib] at uf;refine ⟨H',λn=> ?_⟩;have g47:P.bW[47]? =KX (.fn 62):=rfl;have g46:P.bW[46]? =KX (.fn 68):=rfl;have g50:P.bW[50]? =KX (.cls 0):=rfl;have g51:P.bW[51]? =KX (.fn 67):=rfl;have g52:P.bW[52]? =KX (.fn 58):=rfl;have g53:P.bW[53]? =KX (.fn 66):=rfl;rw[dE ⟨1,[],25,G9⟩ rfl rfl];have w1:(ev P<|n+299).s (.asB 1 2 47 [(.v 0),(.c<|.int 0)] (.aM 46 [])) (lw (.fr<|.lst<|xs.map .int) .un .un .un .un .un .un .un .un .un .un .un .un) []=KX (.nx,lw (.fr<|.lst<|xs.map .int) (.fr<|.ref 0) (.fr iA) .un .un .un .un .un .un .un .un .un .un,[eK s]):=
  Qf g47 (aH (xv rfl)<|aH xc br) (pool<|n+268) (cD g46 br<|D2 (n+277) _) rfl (by decide) rfl;refine Vm (R6 outF<|s1 w1<|bp<|s1 (IA (n+279) _ _ _ _)<|bp<|s1 (dr<|n+239)<|bp ?_)<|jZ (.bool R8) (lw (.fr<|.lst<|xs.map .int) (.fr<|.ref 0) (.fr iA) (.fr<|.lst<|ls.map Ln.av) x4 x5 (.fr<|.lst<|(fw ls ls.length).map gz) x7 x8 x9 x10 x11<|.fr<|ay ls) H';refine s1 (MD br br rfl (by decide) rfl)<|bp ?_;refine s1 (sE rfl rfl)<|bp ?_;refine s1 (lp<|n+235)<|bp ?_;refine s1 (sE rfl rfl)<|bp ?_;have ol:aw (ls.map Ln.av).length=true:=aY (by rw[Sr];exact Sb ‹_› (by decide));have c3:=Ke (n+290) (H:=[eK sa]) ls [] .un .un .un .un (by simp;exact Sb ‹_› (by decide));rw[Ua] at c3;have w8:(ev P<|n+299).s (.as 12<|.callC 50 [(.c<|.str [103]),(.c<|.int 7),(.aM 51 []),(.lst [(.lst [(.comp [Sd,Sd,Sd,Sd] (.t [(.n 1),(.n 2),(.n 3)]) (.e<|.v 3) [] (.v 1)),(.tup [(.c<|.str [114,101,116,117,114,110])])])])]) (lw (.fr<|.lst<|xs.map .int) (.fr<|.ref 0) (.fr iA) (.fr<|.lst<|ls.map Ln.av) x4 x5 x6 x7 x8 x9 x10 x11 .un) [eK sa]=KX (.nx,lw (.fr<|.lst<|xs.map .int) (.fr<|.ref 0) (.fr iA) (.fr<|.lst<|ls.map Ln.av) x4 x5 x6 x7 x8 x9 x10 x11<|.fr<|ay ls,[eK sa,.dead]):=by refine ib (t7 g50 ?_<|Ni (n+277) _ ls) rfl;refine aH xc<|aH xc<|aH (cD g51 br<|Fj (n+276) _)<|aH (uH<|aH (uH<|aH (ph (iV (xv rfl) ol) rfl c3)<|aH (jc<|aH xc br) br) br) br
 refine s1 w8<|bp ?_;refine s1 (sE rfl h6)<|bp ?_;have ol2:aw ((fw ls ls.length).map xJ).length=true:=aY (by rw[Sr];lia);have c2:=Lm (n+292) (H:=H') (fw ls ls.length) [] .un .un .un (by simp;lia);rw[Ua] at c2;have use:=uf<|n+45;refine s1 (qt<|Gw (t:=R8) (x:=.lst<|(fw ls ls.length).map gz) (y:=.lst<|(fw ls ls.length).map gz) (H1:=H') (ph (loc1:=[.un,.un,.un]) (H1:=H') (xs:=(fw ls ls.length).map xJ) (iV ?_ ol2) rfl c2) (xv rfl)<|Kv ls ls.length) lE;exact cD g52 (vs:=[ay ls,.ref 2]) (H1:=[eK sa,.dead,dO,.dead,.dead,.dead]) (aH (xv rfl)<|aH (cD g53 br<|H8 (n+274) _) br) use
theorem plain:∀xs:R5 SK,xs.length<=63->∃k H',k<=340/\(ev P k).f 72 [.lst (xs.map .int)] []=KX (.bool R8,H'):=by intro xs hx;obtain ⟨H',run⟩:=JA hx;exact ⟨300,H',by decide,run 0⟩
end
end Pl
section
open PySem PySem.W PyProof.Rows
theorem aby (ds : R5 WData) : PySem.Challenge.rw_ot0039_01.row.toRowW.claim.post ds (WData.bool R8) ds = true := by kernel_rfl
namespace x
theorem tw2671404958674057100:1=1:=rfl
theorem tw2328467935925740094:1=1:=rfl
theorem tw9471003062986669584:1=1:=rfl
theorem tw6785264128175191107:1=1:=rfl
theorem tw12968142426545077661:1=1:=rfl
theorem tw11770790542106224169:1=1:=rfl
theorem tw13383335018554019124:1=1:=rfl
theorem tw9385900714193686702:1=1:=rfl
theorem tw6164925503713636432:1=1:=rfl
theorem tw153663617700881983:1=1:=rfl
theorem tw644440599195955253:1=1:=rfl
theorem tw4163826519484910644:1=1:=rfl
theorem tw5382982692926990694:1=1:=rfl
theorem tw4759715125625002535:1=1:=rfl
theorem tw13936901014447363458:1=1:=rfl
theorem tw5113408081500900827:1=1:=rfl
theorem tw6892533655378478274:1=1:=rfl
theorem tw14586578672885659358:1=1:=rfl
theorem tw14512326587755694717:1=1:=rfl
theorem tw12115848265970941389:1=1:=rfl
theorem tw7284495432789486367:1=1:=rfl
theorem tw5276948786688788311:1=1:=rfl
theorem tw13534022217776201482:1=1:=rfl
theorem tw11899250118809682927:1=1:=rfl
theorem tw11330063893512443117:1=1:=rfl
theorem tw6402674378465468485:1=1:=rfl
theorem tw6414911629305127539:1=1:=rfl
theorem tw6741919372446279876:1=1:=rfl
theorem tw10791274949475692085:1=1:=rfl
theorem tw11588330872536301463:1=1:=rfl
theorem tw10226019172108698175:1=1:=rfl
theorem tw15365430251381188535:1=1:=rfl
theorem tw8693088062975936780:1=1:=rfl
theorem tw8540945352355467043:1=1:=rfl
theorem tw3451411277532209348:1=1:=rfl
theorem tw1519804546437208012:1=1:=rfl
theorem tw10569255382827478549:1=1:=rfl
theorem tw12461824860774988985:1=1:=rfl
theorem tw9638056029519545538:1=1:=rfl
theorem tw15291912424312321969:1=1:=rfl
theorem tw11540676082647688023:1=1:=rfl
theorem tw2846415535211591788:1=1:=rfl
theorem tw5444495295266863681:1=1:=rfl
theorem tw15017155745608512276:1=1:=rfl
theorem tw8483333946443995097:1=1:=rfl
theorem tw11385762947692907880:1=1:=rfl
theorem tw2503383851743107049:1=1:=rfl
theorem tw4925957641110838725:1=1:=rfl
theorem tw10304904798139725890:1=1:=rfl
theorem tw10353587474284317725:1=1:=rfl
theorem tw1212350918065989565:1=1:=rfl
theorem tw10346329977637754999:1=1:=rfl
theorem tw10267089450696181043:1=1:=rfl
theorem tw5576823692980842494:1=1:=rfl
theorem tw7437978874721659629:1=1:=rfl
theorem tw7620439114524771159:1=1:=rfl
theorem tw3777421684275937548:1=1:=rfl
theorem tw9356190949730750099:1=1:=rfl
theorem tw1821356758316432043:1=1:=rfl
theorem tw9480908233335186302:1=1:=rfl
theorem tw12387249792668917091:1=1:=rfl
theorem tw7626620491692186694:1=1:=rfl
theorem tw3461889752873945555:1=1:=rfl
theorem tw7369674969012111550:1=1:=rfl
theorem tw14892279302759909154:1=1:=rfl
theorem tw6290921284420106355:1=1:=rfl
theorem tw15150889340220902564:1=1:=rfl
theorem tw12106543564560068109:1=1:=rfl
theorem tw14368359798748637774:1=1:=rfl
theorem tw4660150741601667129:1=1:=rfl
theorem tw2767206698608310293:1=1:=rfl
theorem tw13456645568142478491:1=1:=rfl
theorem tw5275940119117121244:1=1:=rfl
theorem tw15239906933619265814:1=1:=rfl
theorem tw12988068091606151627:1=1:=rfl
theorem tw3881811204495988814:1=1:=rfl
theorem tw54804997478021788:1=1:=rfl
theorem tw6404580509180692667:1=1:=rfl
theorem tw7154660803688209970:1=1:=rfl
theorem tw18441254240430968841:1=1:=rfl
theorem tw10466111936039050714:1=1:=rfl
theorem tw7653093189279295044:1=1:=rfl
theorem tw8465095836503448206:1=1:=rfl
theorem tw8055779327185426309:1=1:=rfl
theorem tw6946233028526211146:1=1:=rfl
theorem tw15189604770913195686:1=1:=rfl
theorem tw3171482139331451019:1=1:=rfl
theorem tw16312127453373237007:1=1:=rfl
theorem tw9275346360590289224:1=1:=rfl
theorem tw686485073701017565:1=1:=rfl
theorem tw3092863028381169883:1=1:=rfl
theorem tw5471686300144291343:1=1:=rfl
theorem tw18148632499684739371:1=1:=rfl
theorem tw2030587414725155241:1=1:=rfl
theorem tw2102660879371982782:1=1:=rfl
theorem tw4844785656324935117:1=1:=rfl
theorem tw9385763043660645162:1=1:=rfl
theorem tw2031537917373578216:1=1:=rfl
theorem tw4085522210826166954:1=1:=rfl
theorem tw2149461152611864792:1=1:=rfl
theorem tw15606782457214070813:1=1:=rfl
theorem tw10197060477242211412:1=1:=rfl
theorem tw12757561806736355991:1=1:=rfl
theorem tw8719130420221826889:1=1:=rfl
theorem tw3027998181802080152:1=1:=rfl
theorem tw14370012482020207052:1=1:=rfl
theorem tw2941005166873331770:1=1:=rfl
theorem tw5184104560716531515:1=1:=rfl
theorem tw10757968344062361776:1=1:=rfl
theorem tw14124624998836057355:1=1:=rfl
theorem tw11653083676658106259:1=1:=rfl
theorem tw8857535405129017163:1=1:=rfl
theorem tw10496362432864583640:1=1:=rfl
theorem tw444000361798711990:1=1:=rfl
theorem tw2258973745614765316:1=1:=rfl
theorem tw2184305600173372038:1=1:=rfl
theorem tw14411759535298899986:1=1:=rfl
theorem tw16124165753812819439:1=1:=rfl
theorem tw18168152624345011834:1=1:=rfl
theorem tw15962880341721773323:1=1:=rfl
theorem tw11263278172391293508:1=1:=rfl
theorem tw17203731521321720278:1=1:=rfl
theorem tw17133226110308095733:1=1:=rfl
theorem tw4730388299294564038:1=1:=rfl
theorem tw15924959407741666243:1=1:=rfl
theorem tw15463307242940609706:1=1:=rfl
theorem tw7736968067393406997:1=1:=rfl
theorem tw12620965543213870692:1=1:=rfl
theorem tw9335506418633193063:1=1:=rfl
theorem tw14209563519764628652:1=1:=rfl
theorem tw7697755396396250407:1=1:=rfl
theorem tw11248508363824571033:1=1:=rfl
theorem tw14231542307434920384:1=1:=rfl
theorem tw12549659723121084872:1=1:=rfl
theorem tw17875511719909735586:1=1:=rfl
theorem tw12880229461769388268:1=1:=rfl
theorem tw14766882862815897751:1=1:=rfl
theorem tw17394527227752172927:1=1:=rfl
theorem tw6636379785725748586:1=1:=rfl
theorem tw1345936403204691166:1=1:=rfl
theorem tw9084636662999748164:1=1:=rfl
theorem tw174291110116197995:1=1:=rfl
theorem tw13305670851187372719:1=1:=rfl
theorem tw3539669927792657173:1=1:=rfl
theorem tw11919879220120795280:1=1:=rfl
theorem tw9414052845115507666:1=1:=rfl
theorem tw6626372317466925969:1=1:=rfl
theorem tw9713188542265932139:1=1:=rfl
theorem tw16641446679035150526:1=1:=rfl
theorem tw365113718263555865:1=1:=rfl
theorem tw6805995646604004565:1=1:=rfl
theorem tw5624581029892550738:1=1:=rfl
theorem tw4126696890745242100:1=1:=rfl
theorem tw8708084076596553339:1=1:=rfl
theorem tw10413092625324450665:1=1:=rfl
theorem tw9395590017629532570:1=1:=rfl
theorem tw2826027730710671101:1=1:=rfl
theorem tw6963639386135523632:1=1:=rfl
theorem tw11152688277256578661:1=1:=rfl
theorem tw4268934477054875608:1=1:=rfl
theorem tw17275957359131114796:1=1:=rfl
theorem tw1522788409887322740:1=1:=rfl
theorem tw3074589843187163427:1=1:=rfl
theorem tw9474660433887755057:1=1:=rfl
theorem tw3698016540019659808:1=1:=rfl
theorem tw1941840343715867837:1=1:=rfl
theorem tw10559756587101959707:1=1:=rfl
theorem tw3702372123164513411:1=1:=rfl
theorem tw498090058691834112:1=1:=rfl
theorem tw6539401764719334992:1=1:=rfl
theorem tw7786383420094719546:1=1:=rfl
theorem tw2348609113724625019:1=1:=rfl
theorem tw11880967880999230385:1=1:=rfl
theorem tw9869490871272542277:1=1:=rfl
theorem tw16907680863837237588:1=1:=rfl
theorem tw13404080080569854418:1=1:=rfl
theorem tw10525739240252636989:1=1:=rfl
theorem tw8008398115293277242:1=1:=rfl
theorem tw3244176093233234941:1=1:=rfl
theorem tw9858674147946454049:1=1:=rfl
theorem tw7935230909281515101:1=1:=rfl
theorem tw9314955600995567879:1=1:=rfl
theorem tw277378142224398894:1=1:=rfl
theorem tw3629681586767258163:1=1:=rfl
theorem tw417206069588231276:1=1:=rfl
theorem tw10460298856954944025:1=1:=rfl
theorem tw13911296529826804998:1=1:=rfl
theorem tw7221472846242033544:1=1:=rfl
theorem tw11238088504442425704:1=1:=rfl
theorem tw652140677145011976:1=1:=rfl
theorem tw14564539787212841065:1=1:=rfl
theorem tw651055884809626906:1=1:=rfl
theorem tw14391522486415727291:1=1:=rfl
theorem tw1547508298962110977:1=1:=rfl
theorem tw3018043995717684545:1=1:=rfl
theorem tw5437396367860926943:1=1:=rfl
theorem tw2899202315850720040:1=1:=rfl
theorem tw14460396198705684572:1=1:=rfl
theorem tw4361007222548793063:1=1:=rfl
theorem tw6762002137794617793:1=1:=rfl
theorem tw8295769145949407962:1=1:=rfl
theorem tw4624181876657443450:1=1:=rfl
theorem tw3151297232678651169:1=1:=rfl
theorem tw5234200816470371192:1=1:=rfl
theorem tw12300088240222704753:1=1:=rfl
theorem tw5189050842058491940:1=1:=rfl
theorem tw17380532202520998642:1=1:=rfl
theorem tw11174138412563079361:1=1:=rfl
theorem tw1295649265671579530:1=1:=rfl
theorem tw2181795950510259404:1=1:=rfl
theorem tw1247626804567848078:1=1:=rfl
theorem tw4543406764029737288:1=1:=rfl
theorem tw5804698522729214953:1=1:=rfl
theorem tw3431950901272927768:1=1:=rfl
theorem tw15618312535156415978:1=1:=rfl
theorem tw13739421960604655352:1=1:=rfl
theorem tw5753882423928232700:1=1:=rfl
theorem tw9391212608485198696:1=1:=rfl
theorem tw18387751369287724176:1=1:=rfl
theorem tw8602546984128623627:1=1:=rfl
theorem tw11690331266879010249:1=1:=rfl
theorem tw11775502517900509241:1=1:=rfl
theorem tw6802943048862258988:1=1:=rfl
theorem tw5649184971023305162:1=1:=rfl
theorem tw10724780829119155504:1=1:=rfl
theorem tw2457097175091800351:1=1:=rfl
theorem tw11073987179921094801:1=1:=rfl
theorem tw14304275671176217830:1=1:=rfl
theorem tw1001532501855727302:1=1:=rfl
theorem tw4298905093436458867:1=1:=rfl
theorem tw3978335419371425541:1=1:=rfl
theorem tw2877658537131324672:1=1:=rfl
theorem tw2430407081202438575:1=1:=rfl
theorem tw6024237633146544035:1=1:=rfl
theorem tw6991744096467702674:1=1:=rfl
theorem tw3299604873197239558:1=1:=rfl
theorem tw7338171149653478835:1=1:=rfl
theorem tw5654415358209667011:1=1:=rfl
theorem tw6071188302033730307:1=1:=rfl
theorem tw1139522334345932651:1=1:=rfl
theorem tw50765603190942054:1=1:=rfl
theorem tw2368835534739104391:1=1:=rfl
theorem tw6931795903576569165:1=1:=rfl
theorem tw4714989363750917325:1=1:=rfl
theorem tw440316659002846147:1=1:=rfl
theorem tw2510208313702720416:1=1:=rfl
theorem tw17508591134574701350:1=1:=rfl
theorem tw16617684350325261552:1=1:=rfl
theorem tw16381651940214206014:1=1:=rfl
theorem tw15442105258966996918:1=1:=rfl
theorem tw13151638145551511817:1=1:=rfl
theorem tw10066789104696453630:1=1:=rfl
theorem tw4978509381943206793:1=1:=rfl
theorem tw17582118683515635218:1=1:=rfl
theorem tw3978212307908992501:1=1:=rfl
theorem tw10998017406588778082:1=1:=rfl
theorem tw16933433553694432413:1=1:=rfl
theorem tw1800494725884142509:1=1:=rfl
theorem tw6566157677153951082:1=1:=rfl
theorem tw11996299347161798078:1=1:=rfl
theorem tw959539052053523944:1=1:=rfl
theorem tw17496645218821445055:1=1:=rfl
theorem tw5609010456626668148:1=1:=rfl
theorem tw4654139819506748638:1=1:=rfl
theorem tw3466878022938733119:1=1:=rfl
theorem tw6345953086543602152:1=1:=rfl
theorem tw14650118311285502376:1=1:=rfl
theorem tw2488568755365922908:1=1:=rfl
theorem tw5772376387604637113:1=1:=rfl
theorem tw9337014910289677166:1=1:=rfl
theorem tw1029178776387990457:1=1:=rfl
theorem tw855200012024981694:1=1:=rfl
theorem tw11501079129989429816:1=1:=rfl
theorem tw14419240016014430285:1=1:=rfl
theorem tw11198062676181368647:1=1:=rfl
theorem tw14860364026049536479:1=1:=rfl
theorem tw11830229877695963470:1=1:=rfl
theorem tw18278118953279031888:1=1:=rfl
theorem tw700693766434587172:1=1:=rfl
theorem tw1261695478015965603:1=1:=rfl
theorem tw7687100253586816798:1=1:=rfl
theorem tw5602930417054111180:1=1:=rfl
theorem tw12432819272207377467:1=1:=rfl
theorem tw10702386648754445941:1=1:=rfl
theorem tw11631502445704908054:1=1:=rfl
theorem tw13266402878141357004:1=1:=rfl
theorem tw4642934215371500760:1=1:=rfl
theorem tw15533313513226432012:1=1:=rfl
theorem tw13625478295217002687:1=1:=rfl
theorem tw11152097150223382674:1=1:=rfl
theorem tw15566559617231922470:1=1:=rfl
theorem tw15678699275516499568:1=1:=rfl
theorem tw16556348584133028553:1=1:=rfl
theorem tw15467777442375258450:1=1:=rfl
theorem tw7129902274911853188:1=1:=rfl
theorem tw2297875269983110331:1=1:=rfl
theorem tw5736272868156047728:1=1:=rfl
theorem tw17918841234362704929:1=1:=rfl
theorem tw17090399368757476015:1=1:=rfl
theorem tw5879566014789606625:1=1:=rfl
theorem tw7099823835032311688:1=1:=rfl
theorem tw12924040417176290631:1=1:=rfl
theorem tw5482030238576338442:1=1:=rfl
theorem tw8352813448428776763:1=1:=rfl
theorem tw17874214885126900397:1=1:=rfl
theorem tw10757744502361639836:1=1:=rfl
theorem tw3710745936682407702:1=1:=rfl
theorem tw10852289587248604036:1=1:=rfl
theorem tw7670066692240471240:1=1:=rfl
theorem tw1357455936280884320:1=1:=rfl
theorem tw10337713858166904036:1=1:=rfl
theorem tw14130357893715708048:1=1:=rfl
theorem tw12555855287479064542:1=1:=rfl
theorem tw14731015455150100329:1=1:=rfl
theorem tw13440853691466553548:1=1:=rfl
theorem tw2158287766650901963:1=1:=rfl
theorem tw16989305204793095802:1=1:=rfl
theorem tw2968461170794751986:1=1:=rfl
theorem tw5977407392303757512:1=1:=rfl
theorem tw17235282440714445331:1=1:=rfl
theorem tw5808590020691599037:1=1:=rfl
theorem tw3287712018309656675:1=1:=rfl
theorem tw13312682460005474109:1=1:=rfl
theorem tw10875150210409747867:1=1:=rfl
theorem tw9557492619550179002:1=1:=rfl
theorem tw7900561403994041939:1=1:=rfl
theorem tw6692482469353546723:1=1:=rfl
theorem tw13313892878447484956:1=1:=rfl
theorem tw17128693038411932882:1=1:=rfl
theorem tw13139566152826953669:1=1:=rfl
theorem tw12738833279926380175:1=1:=rfl
theorem tw9211440058168996849:1=1:=rfl
theorem tw15413583522491053374:1=1:=rfl
theorem tw319455692255987101:1=1:=rfl
theorem tw9512345847452006689:1=1:=rfl
theorem tw10535028709905733415:1=1:=rfl
theorem tw15960217252020907611:1=1:=rfl
theorem tw10953674834552578204:1=1:=rfl
theorem tw14973763326131262070:1=1:=rfl
theorem tw10673936430186922526:1=1:=rfl
theorem tw2994759592192515869:1=1:=rfl
theorem tw9989011559646604282:1=1:=rfl
theorem tw11823987395372424745:1=1:=rfl
theorem tw4299154929937433062:1=1:=rfl
theorem tw9652982682397368998:1=1:=rfl
theorem tw3378107541518595685:1=1:=rfl
theorem tw16442757948604090946:1=1:=rfl
theorem tw16203776201559779557:1=1:=rfl
theorem tw12063771883288316417:1=1:=rfl
theorem tw2070596085503899165:1=1:=rfl
theorem tw7123253501315159090:1=1:=rfl
theorem tw12204535386164934915:1=1:=rfl
theorem tw9223267820108774465:1=1:=rfl
theorem tw15045959462451963267:1=1:=rfl
theorem tw14816229990928203272:1=1:=rfl
theorem tw13757659492081354683:1=1:=rfl
theorem tw918223081665066280:1=1:=rfl
theorem tw4774182426475251182:1=1:=rfl
theorem tw4726649939641546272:1=1:=rfl
theorem tw17556134957864280480:1=1:=rfl
theorem tw16681757536518889665:1=1:=rfl
theorem tw15364625721253283965:1=1:=rfl
theorem tw2511845003084617712:1=1:=rfl
theorem tw16171945164727132587:1=1:=rfl
theorem tw1010278578411500068:1=1:=rfl
theorem tw9050724817417517336:1=1:=rfl
theorem tw11567505412842260901:1=1:=rfl
theorem tw8275940422212164360:1=1:=rfl
theorem tw4051216716871801497:1=1:=rfl
theorem tw804541984203314574:1=1:=rfl
theorem tw5285631970104304785:1=1:=rfl
theorem tw11802279843911420041:1=1:=rfl
theorem tw418252873473075935:1=1:=rfl
theorem tw6044441613383836518:1=1:=rfl
theorem tw18408758822977267605:1=1:=rfl
theorem tw13511702388180883722:1=1:=rfl
theorem tw4203466863050935155:1=1:=rfl
theorem tw14621089452471173696:1=1:=rfl
theorem tw12623713826428172572:1=1:=rfl
theorem tw4730024251818983634:1=1:=rfl
theorem tw17485196219784441310:1=1:=rfl
theorem tw8955554126749809316:1=1:=rfl
theorem tw3933397803148660768:1=1:=rfl
theorem tw16653143505539422327:1=1:=rfl
theorem tw13681343968574968315:1=1:=rfl
theorem tw6546621369630335857:1=1:=rfl
theorem tw5410891375964392537:1=1:=rfl
theorem tw5291674161435922711:1=1:=rfl
theorem tw4261340436814100215:1=1:=rfl
theorem tw9139255790431897975:1=1:=rfl
theorem tw8649147109174109368:1=1:=rfl
theorem tw1846702302530707924:1=1:=rfl
theorem tw15431238697594745997:1=1:=rfl
theorem tw7330704383911361091:1=1:=rfl
theorem tw1902994482729452793:1=1:=rfl
theorem tw15245849869452018419:1=1:=rfl
theorem tw11168731951259093396:1=1:=rfl
theorem tw8129337695813753353:1=1:=rfl
theorem tw17860277991289140484:1=1:=rfl
theorem tw17403904752215370046:1=1:=rfl
theorem tw13348930880337077077:1=1:=rfl
theorem tw10332183940477415690:1=1:=rfl
theorem tw6363397653397583601:1=1:=rfl
theorem tw16530866331073812311:1=1:=rfl
theorem tw11884053099720892034:1=1:=rfl
theorem tw4694664066096678178:1=1:=rfl
theorem tw6291270798720393738:1=1:=rfl
theorem tw3823393467520340937:1=1:=rfl
theorem tw3373436845226207081:1=1:=rfl
theorem tw13983588808995212183:1=1:=rfl
theorem tw2924872020614974547:1=1:=rfl
theorem tw1396802460559073154:1=1:=rfl
theorem tw16624541281840933487:1=1:=rfl
theorem tw13509644054268046008:1=1:=rfl
theorem tw17894082397646807352:1=1:=rfl
theorem tw16536999227839875558:1=1:=rfl
theorem tw432039244419659052:1=1:=rfl
theorem tw3190763850416584886:1=1:=rfl
theorem tw6081628855365183206:1=1:=rfl
theorem tw17145665245010286348:1=1:=rfl
theorem tw13657006849385425660:1=1:=rfl
theorem tw16977679527214113646:1=1:=rfl
theorem tw13824257015375245630:1=1:=rfl
theorem tw36688575622155945:1=1:=rfl
theorem tw13157752934955354825:1=1:=rfl
theorem tw9654468477003612155:1=1:=rfl
theorem tw871963694191388570:1=1:=rfl
theorem tw7352610295427127359:1=1:=rfl
theorem tw1897911926255972164:1=1:=rfl
theorem tw13858607164585766432:1=1:=rfl
theorem tw8604951737876342204:1=1:=rfl
theorem tw5980355764045139545:1=1:=rfl
theorem tw5927625692709969301:1=1:=rfl
theorem tw4423329195707834276:1=1:=rfl
theorem tw4003381714396428845:1=1:=rfl
theorem tw15814378279618657997:1=1:=rfl
theorem tw8731219726873627875:1=1:=rfl
theorem tw5112799527311628229:1=1:=rfl
theorem tw15424426376055524763:1=1:=rfl
theorem tw11038615921957508770:1=1:=rfl
theorem tw7851465932976235069:1=1:=rfl
theorem tw2662806063479153118:1=1:=rfl
theorem tw6995121177932976223:1=1:=rfl
theorem tw13407300215643200283:1=1:=rfl
theorem tw12560229906789948698:1=1:=rfl
theorem tw18239830001921196365:1=1:=rfl
theorem tw4879392065072091068:1=1:=rfl
theorem tw11199771451364095874:1=1:=rfl
theorem tw13995897299514615827:1=1:=rfl
theorem tw2760173994756918302:1=1:=rfl
theorem tw9430903384709548213:1=1:=rfl
theorem tw8770850211004502190:1=1:=rfl
theorem tw15124994039739642421:1=1:=rfl
theorem tw14939703982172950363:1=1:=rfl
theorem tw6799859588104022867:1=1:=rfl
theorem tw17727510802651550350:1=1:=rfl
theorem tw2636657482830861956:1=1:=rfl
theorem tw2308301581979924532:1=1:=rfl
theorem tw1662353425484187019:1=1:=rfl
end x
set_option tactic.hygienic true in
set_option Elab.async true in
theorem x : PySem.Challenge.rw_ot0039_01.Holds := by
  w_on; o_law; k_head; (case hw => w_witness2)
  k_fill
  intro w abz ai mg mb G Y fa o pm cd doc dV kV ho hd hcd hD hmg hg args vals as hpre hlay hrd hwl hlo
  have KX := km_in_of Y
  km_tabs Y
  have X := (Ground.X G).1
  have V := (Ground.X G).2
  refine Ground.open G ?_
  intro T B D TE TW
  try (refine guard_noD D (by decide +kernel) ?_; clear D)
  km_lay T hmg ho hd cd
  wrow_args hpre hlay hrd hwl hlo
  all_goals (
    first | refine callC_kw (enter_call ?_) | refine enter_call ?_
    w_top on
    kn_posts
    clear hd hcd hD)
  rename_i xs hs hlay0 hL1 hr1 hl2 as1 as2 l vs as3 hL ra w1 r0 hI hr hcond hcond2
  obtain ⟨k, H', hk, hev⟩ := Pl.plain xs (by omega)
  have w1' := w1
  rw [show ofPy (PyData.list (xs.map PyData.int)) = .list ((xs.map PyData.int).map ofPy) from by rw [← ofPys_eq]; rfl] at w1'
  cases w1' with
  | list e1 e2 =>
  rename_i vs'
  rw [UT] at e2
  refine Rj T KX ?F hT9 hmg (vs := vs') e1 e2 hk hev fun s' g1 g2 g3 g4 => ⟨?_, g4⟩
  case F =>
    exact {
      tp := by kernel_rfl
      cls := by kernel_rfl
      bW := by kernel_rfl
      QV := by kernel_rfl
      fn := by kernel_rfl
      keep := by kernel_rfl
      GC := by kernel_rfl
      x1 := by kernel_rfl
      x2 := ⟨by kernel_rfl, by kernel_rfl, by kernel_rfl, by kernel_rfl⟩
      x3 := ⟨⟨by kernel_rfl, by kernel_rfl, by kernel_rfl⟩, by kernel_rfl⟩
      x4 := ⟨by kernel_rfl, by kernel_rfl, by kernel_rfl, by kernel_rfl⟩
      x5 := by kernel_rfl
      x6 := fun b => by cases b <;> kernel_rfl
      b1 := by kernel_rfl
      b2 := by kernel_rfl
      b3 := by kernel_rfl
      b4 := by kernel_rfl
      b5 := by kernel_rfl
      b6 := by kernel_rfl
      b7 := by kernel_rfl
      b8 := by kernel_rfl
      b9 := by kernel_rfl
      Rp := by kernel_rfl
      Q1 := by kernel_rfl
      QP := by kernel_rfl
      QU := by kernel_rfl
      Rg := by kernel_rfl
      Ro := by kernel_rfl
      QG := by kernel_rfl
      Q4 := by kernel_rfl
      QR := by kernel_rfl
      Ra := by kernel_rfl }
  refine ⟨.inl ⟨_, _, _, rfl, ?_, .bool R8, ?_, unshared_nil⟩, g1, g2, ?_⟩
  · exact fun _ => rfl
  · exact aby _
  · exact g3.trans hg
end
end Mine
theorem PySem.Challenge.cw_ot0039_01_holds : PySem.Challenge.rw_ot0039_01.Holds :=
  Mine.x
