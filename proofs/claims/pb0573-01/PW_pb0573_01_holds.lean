import PyProof.Rows.All
import KE.KPar
import KE.KTryMore
import KE.KTypeName
import KE.LcSums
import OpenK.AllK
import PyProof.NsDelKeeps
import PyProof.RulesAs
import PyProof.RulesFinally
import Wide.All
import Wide.FinOn
import Lean
import PySem.Challenge.RW_pb0573_01
set_option Elab.async false
set_option tactic.hygienic false
set_option maxRecDepth 100000
set_option linter.unusedVariables false
set_option linter.unusedSimpArgs false
open Array renaming getElem?_setIfInBounds_ne->OR,length_toList->PH,getElem?_toList->TX,mem_toList_iff->Ud,toList_push->UW
open Bool renaming noConfusion->H',and_eq_true_iff->Ol,and_eq_true->OG,eq_iff_iff->Pz,not_eq_true'->PT,or_eq_true_iff->QX,true_and->Rm,not_eq_true->Rx,false_and->S5,false_eq_true->UU,eq_false_iff->Vc,or_eq_true->VE
open Char renaming toNat->XW
open Classical renaming byContradiction->Sw
open False renaming elim->Rz
open ForInStep renaming yield->Pp
open Int renaming fdiv->Om,fmod->OF,ofNat->OO,natCast_nonneg->O9,ofNat_le->P8,ofNat_lt->Qo,lt_of_le_of_lt->Rc,not_lt->Sf,le_trans->Sq,not_le->Tq,negSucc->UB,toNat_of_nonneg->UQ,subNatNat_of_le->UR,negSucc_lt_zero->UT,lt_of_lt_of_le->Vb,noConfusion->VX,natCast_pos->VY,neg_le_neg->Wo,ofNat_sub->WR,lt_trans->Xf
open Int.negSucc renaming inj->Yi
open Int.ofNat renaming inj->US
open List renaming length_append->N1,getElem?_eq_some_iff->N3,toArray->N4,length_cons->N6,mem_cons->N7,getElem?_eq_getElem->N8,map_cons->Oa,getElem?_map->Oc,length_map->Oe,mem_of_getElem?->Og,append_assoc->Oh,not_mem_nil->Ou,getElem?_append_right->Ov,append_nil->OE,map_append->OM,lookup_cons->ON,getElem?_set_ne->OP,all_eq_true->OV,range->OX,replicate->O1,mem_singleton->O7,getD_eq_getElem?_getD->O8,map_map->Pc,length_drop->Pd,getElem?_append_left->Pf,mem_map_of_mem->Ph,length_nil->Pk,drop_eq_nil_of_le->Pr,nodup_cons->Py,getElem_mem->PB,length_set->PS,mem_range->P0,length_replicate->Qc,nodup_append->Qf,mem_of_mem_drop->Qj,mem_append->Qq,getElem?_drop->Qr,length->Qs,take_of_length_le->Qx,getElem?_set_self->Qy,getElem?_set->Qz,isEmpty_iff->QF,cons_append->QG,any_eq_true->QH,mem_cons_of_mem->QN,toList_toArray->QU,map_congr_left->QV,length_reverse->QW,mem_map->Q2,any_cons->Rk,all_cons->Rl,filter_cons_of_pos->Rv,filter_cons_of_neg->Rw,foldl_cons->RE,set_append_right->RL,drop_eq_nil_iff->RR,filterMap_cons->R1,mem_filterMap->R6,map_inj_left->Sl,flatten_cons->Sm,length_take->Sv,drop_append_of_le_length->SD,forIn_cons->SM,drop_zero->S3,drop_drop->S4,getElem?_eq_none_iff->Tp,filterMap_cons_some->TF,eq_of_mem_replicate->TH,length_eq_zero_iff->TM,isEmpty->TU,append_eq_nil_iff->TV,length_filter_le->Ub,contains_iff_mem->Uc,getElem?_of_mem->Um,take_succ_cons->UA,mem_cons_self->UO,cons_beq_cons->UP,take_add_one->U7,size_toArray->U8,reverse_cons->U9,length_range->U',any_eq_false->Va,mem_filter->VD,take_zero->VT,drop_left->VW,take_nil->Wm,drop_nil->Wn,set_set->WN,flatten->WO,any_map->WQ
open List.Nodup renaming sublist->YI
open List.Pairwise renaming nil->Xe
open List.Sublist renaming map->XU
open List.eraseDupsBy renaming loop->VU
open Nat renaming beq->I',le_trans->N0,eq_of_beq_eq_true->N2,le_of_ble_eq_true->N9,le_refl->Ox,le_of_lt->Oy,ble->OB,le_add_right->OH,blt->OI,beq_refl->OZ,succ_add_eq_add_succ->O2,ble_eq->O4,le_of_not_lt->Pe,ne_of_lt->PK,ne_of_beq_eq_false->PM,add_sub_cancel'->PZ,add_sub_cancel_left->P1,succ_pos->P5,sub_self->P6,le_of_succ_le_succ->P7,min_eq_left->P',le_add_left->Qa,zero_add->Ql,lt_succ_self->Qm,lt_asymm->Qn,add_le_add->QA,succ_le_succ->QK,lt_irrefl->QM,lt_of_lt_of_le->Rb,le_succ->Rj,sub_sub_self->Ry,le_antisymm->RK,sub_eq_zero_of_le->RN,zero_le->RW,sub_le_sub_right->RX,add_le_add_right->RY,mul_le_mul_left->R3,sub_add_cancel->Sb,lt_of_le_of_lt->Se,le_of_eq->Sp,min_le_right->Sz,sub_le->Ti,not_lt->Tj,beq_eq->To,ne_of_gt->T9,add_comm->Ua,sub_le_iff_le_add->Uk,le_of_sub_eq_zero->Ul,le_sub_of_add_le->Uy,add_min_add_left->Uz,add_le_add_left->UN,sub_pos_of_lt->Vk,lt_trichotomy->Vl,lt_succ_of_le->Vm,le_of_lt_succ->Vn,succ_ne_self->VB,min_eq_right->VC,sub_add_eq->Wl,add_assoc->WM,succ_add->Xa,pow_succ->Xb,mul_comm->Xc,lt_trans->Xd,div_one->XT,sub_lt->Yg,le_min->Yh
open Ne renaming symm->PF
open Option renaming none->Oi,map_some->OD,filter_eq_some_iff->PO,map->Ru,isSome_iff_exists->SY,isSome->S0,join_eq_some_iff->Th,bind_some->UM
open Option.some renaming inj->j',injEq->TC
open Prod renaming fst->Oq
open PyProof.Rows renaming slot_tuple_getitem->Rq,Subscript_->T8,IsTup->UL,StrsAre->U6,truthy_none->XC,sub_int->XD,neg_int->XE,mul_int->XF,mod_int'->XG,lt_int->XH,len_str->XI,le_int->XJ,isub_int->XK,iadd_int->XM,gt_int->XN,ge_int->XO,floordiv_int->XQ,add_str->XR,add_int->XS,wpAny_release'->Yd,slicePart_none->Ye,subscriptTail->YH
open PySem renaming wpAny_bind->u',wpAny_pure->J',model->M',wpAny->N5,wpAny_mono->Ob,Params->Of,treeTable->Pm,Heap->Po,Operator->Pq,cellsFrom->PD,wpAny_standAt->PN,assignEach->PR,wpAny_field->PW,valueAt->Qd,swapsWithSole->Qi,swappedStores->Qu,sizeLine->Qv,compareOp->QB,Scope->QC,wpAny_newObj_type->QI,sysModules->QR,strKind_is->QS,ItemOn->QT,behindInMarks->QZ,Program->Q0,codeAny_call_builtin->Q3,wpAny_execs_nil->Q5,letOwnedTupleGo->Q6,eval->Q7,isInstance->Rn,assign->Ro,CmpOp->Rp,wpAny_truthy_bool->RC,wpAny_assignInOrder_more->RD,starEach->RM,clipAt->RS,bootBuiltins->RT,cLine->RZ,Env->R0,FuncData->R9,wpAny_setItem_pairs->So,Sem->Su,typeOf->Sx,cameBackBy->Sy,without->SN,standAt->SO,codeAny->SP,assignStores->SQ,stored->S9,rawInt->Ta,pushCells->Tb,isTrue->Tc,wpAny_throw->TA,updateField->TB,pushCells_keeps->TJ,wpAny_setField->TY,wpAny_newFunctionEnv_cells->TZ,wpAny_call->T1,pyIter->T2,newFunctionEnv->T3,binaryOp->T4,wpAny_newList->Us,wpAny_assignInOrder_none->Ut,foldedForSure->Uu,assignInOrder->Uv,getMethod->UI,fromIndex->UJ,Model->UK,setAttr->UX,name_of_addr->UY,getAttr->UZ,codeAny_mono->U0,call_meetsIn->U1,codeAny_call_function->Vj,wpAny_loadName_local->Vo,wpAny_Slice->Vp,unbindBehindTheSuite->Vq,keeperOf->Vr,evalThenUse->Vs,compPost->Vt,bindName->Vu,bindL->Vv,wpAny_loadName_free->VN,wpAny_loadName_cell->VO,pyNext->Wc,intKind_is->Wd,closureFor->We,backTo->Wf,spliced->Wz,slot_list_getitem->WA,newList->WB,getItem->WC,callerA->WE,Builtin->WJ,wpAny_lookBehind->WU,seqIndex?->WV,pastItsLine_dict->WW,opaqueClassAbove->WX,noteFrame->WY,inplaceOp->WZ,classData->W0,checkBuiltinCall->W2,assignAll->W4,Pos->W7,Flow->W8,importedModules->Xz,Tok->XA,wpAny_notIn_of->X0,wpAny_newTuple->X1,wpAny_loadPart->X2,wpAny_bindName->X3,truthy->X4,raisedInstance->X5,methodCallForm->X6,execs->X7,constantsAlone->X8,boundAndCalled->X9,methodCallPos->YD,comprehension->YE,attributeBase->YF
open PySem.Bind renaming printed->WL,check->XB
open PySem.Builtin.Range renaming rangeFitsLong->Pj,rangeSize->Sk,small->SK
open PySem.Builtin.Slice renaming slicePlaces->P9,sliceAdjust->QJ,sliceApplied->R2,sliceFields->W'
open PySem.Builtin.Str renaming strSliceIndices->QD
open PySem.Builtin.Tuple renaming tupleExact->Qe,tupleItemsOf->W9
open PySem.Calls renaming Constant_str->U5,call_len_list->YG
open PySem.EntryCells renaming newEntry->Tg
open PySem.Env renaming blockKind->WH
open PySem.F renaming plainAttrs_str->QO,excBase_Exception->Sa,slot_dict_pop->Tf,excAttr_ValueError->U4,plainAttrs_dict->VP,args_dict_pop_3->VQ,entry_dict_pop->Wk,slot_dict_get->WG
open PySem.Flow renaming next->Yc
open PySem.Heap renaming get?_push_of_some->Pb,get?_push_size->Pw,lt_size->PC,get?_update_self->Qb,get?_update_other->Qw,SameBut->Q1,size_push->Q4,get?_none_of_le->RP,ExtBut->RQ,get?->TL,DictOf->Uj,get?_update_ne->Ux
open PySem.Heap.IsSliceOf renaming new->SJ
open PySem.Heap.Ns1 renaming of_empty->T7
open PySem.Keeper renaming boundFrame->Q9,machine->RJ,frame->R5
open PySem.NameKind renaming free->O0,cell->Pg
open PySem.Obj renaming isFreed_of_fields->QE,data_mapFields->Q8
open PySem.Str renaming ofString->P4
open PySem.StrLaws renaming subAt_eq->Uw
open PySem.Txt renaming slice->Vz,find3->VA,startswith->Wi,join->Wj,endswith->W6,charAt->Yb
open PySem.W renaming segRun_of->PQ,findIn->PU,piece_app->PV,Looks->P2,piecesOf->Qh,segRunT->Qk,looks_findIn->Rd,boot_heap->Ri,looks_mroIn->R7,looks_clsIn->R8,same->SU,hasDictIn->Td,typeIn->T5,instObj->U2,Frag->U3,topFrame->Vx,any_some->Vy,check_slot->Wh,plainOver->W5,mroIn->X'
open PySem.W.Looks renaming of_pure->Rf,ld->T6
open PySem.W.SharedT renaming abs->TK
open PySem.Within renaming cons->Wg
open PySem PySem.W PyProof.Rows PySem.Calls
section
noncomputable section
namespace Mine
noncomputable abbrev pw:Q0:=PySem.Challenge.pw_pb0573_01
noncomputable def s(x:String):Str:=P4 x
noncomputable def t(x:String)(k:Nat):Value := .str (P4 x) k
noncomputable def n(o:Obj)(l r:BT):BT := .node o l r
noncomputable def E(P:Of)(x:String)(k:Nat)(v:Value):DictEntry:=⟨PyData.keyHash P (P4 x),.str (P4 x) k,v⟩
noncomputable def ak:List Stmt->Nat->Stmt
 | [],_ => .Pass default
 |x::_,0=>x
 |_::r,k+1=>ak r k
noncomputable def bj(i:Nat):Stmt:=ak pw.main.body i
noncomputable def dE(i j:Nat):Stmt:=match bj i with | .ClassDef _ _ _ b _ _ _ _ _ _ _=>ak b j | _ => .Pass default
noncomputable def Mc(st:Stmt)(nm q:Str):Data:=match st with
 | .FunctionDef _ a b _ _ _ sc _ _ _ => .func {name:=nm,qualname:=q,params:=a,body := .stmts b,scope:=sc,globals:=0,closure:=[],defaults := .none,kwdefaults := .none}
 |_ => .plain
noncomputable def KG(st:Stmt)(nm q:Str)(d pm cd:Value):Data:=match st with
 | .FunctionDef _ a b _ _ _ sc _ _ _ => .func {name:=nm,qualname:=q,params:=a,body := .stmts b,scope:=sc,globals:=3,closure:=[],defaults:=d,kwdefaults := .none,pyModule:=pm,code:=cd}
 |_ => .plain
noncomputable def lf:Life:={}
noncomputable def dr:Drawn:={}
noncomputable def JC:Value:=t "__main__" 164
noncomputable def cZ:Value:=t "tclcore.faults" 194
noncomputable def sg:Value:=t "tclcore.numbers" 436
noncomputable def Gq:Value:=t "tclcore.words" 501
noncomputable def lV:Value:=t "tclcore.lists" 537
noncomputable def n8:Value:=t "tclcore.dicts" 642
noncomputable def uH:Value:=t "tclcore.glob" 672
noncomputable def wH:Value:=t "tclcore.dictcmds" 732
noncomputable def xa:Value:=t "tclcore.spaces" 792
noncomputable def cI:Value:=t "tclcore.host" 827
noncomputable def cR:Value:=t "law_pb0573_01" 1138
noncomputable def hR(a:Nat):Value := .ref a
noncomputable def ct(l:List Value):Obj:=⟨.type "tuple",none,.seq (N4 l) 0,N4 []⟩
noncomputable def bR(c:Value)(l:List Value):Obj:=⟨c,none,.fields (N4 l),N4 []⟩
noncomputable def fW(P:Of)(c:Value)(l:List (String×Nat×Value))(k:Nat):Obj:=⟨c,none,.dict (N4 (l.map fun q=>E P q.1 q.2.1 q.2.2)) k,N4 []⟩
noncomputable def mY(a b:Nat)(m:Value):Obj:=⟨.type "frame",none,.plain,N4 [some (hR a),some (hR 3),some (hR b),none,some m,none,some (hR 0)]⟩
noncomputable def hI(k:Nat):Value := .int (.ofNat k) 0
noncomputable def Ja(nm q:Str)(k l na fl a:Nat)(b:Bool)(x y z:Value)(k2:Nat):Obj:=bR (.type "code") [.str nm k,.str q (k+1),t "/claim/cut.py" (k+2),hI l,hI na,hI 0,hI 0,hI fl,hR a,.bool b,hI 181,hR (a+1),.none,x,y,z,hI k2,hI l,t "/claim/cut.py" (k2+1)]
noncomputable def mU(x:String)(k l a:Nat):Obj:=Ja (P4 x) (P4 x) k l 0 0 a false .none .none .none (k+3)
noncomputable def lP(x:String)(bs mro:List Value)(ns:Nat)(u:List Value)(b:Option Value)(k l:Nat)(f:String):Obj:=⟨.type "type",none,.cls {name:=s x,bases:=bs,mro:=mro,ns:=ns,qualname:=s x,hasDict:=true,subclasses:=u},N4 [b,none,some (t x k),some (t x l),some (.builtin f),some (.bool true)]⟩
noncomputable def hQ(x:String)(nm:Str):Str:=⟨N4 ((P4 x).cps.toList++nm.cps.toList)⟩
noncomputable def hL(k:Nat):List (Str×NameKind)->List Value
 | []=>[]
 |(x,.local)::r => .str x k::hL (k+1) r
 |_::r=>hL k r
noncomputable def hF(b:Bool)(st:Stmt)(x:String)(d m:Value)(a k:Nat):List Obj:=match st with
 | .FunctionDef nm ar _ _ _ _ sc _ _ p=>
  let l:=cond b (hL (k+3) sc.names) []
  let c:=cond b (a+2) a
  [ct [],bR .none []]++(cond b [ct l,ct []] []++[⟨.none,none,Mc st nm (hQ x nm),N4 []⟩,Ja nm (hQ x nm) k p.line ar.args.length 3 a true (cond b (hR (a+2)) .none) (cond b (hR (a+3)) .none) (hR (c+2)) (k+3+l.length),⟨.type "function",none,KG st nm (hQ x nm) d m (hR (c+3)),N4 []⟩])
 |_=>[]
noncomputable def aU:=hF true
noncomputable def qn:=hF false
noncomputable def Eo(P:Of):Obj:=lP "Raised" [(.type "Exception")] [(hR 84),(.type "Exception"),(.type "BaseException"),(.type "object")] 83 [] (some (hR 66)) 257 265 "Exception.__new__"
noncomputable def FY(P:Of):Obj:=fW P (.type "dict") [("__module__",264,cZ),("__firstlineno__",268,(.int 14 267)),("__init__",283,(hR 81)),("__static_attributes__",293,(hR 82)),("__weakref__",295,(hR 85)),("__doc__",296,.none)] 3
noncomputable def hO(P:Of)(u w:List Value):List Obj:=WO [
[ct [],bR .none [],mU "<module>" 182 1 11,mY 13 3 JC],
aU (bj 0) "" .none JC 15 187,
[ct [(.type "Exception")],bR (.type "builtin_function_or_method") [(.builtin "type.__prepare__"),(.type "type")],fW P (.type "dict") [("__module__",203,cZ),("__qualname__",205,(t "TclFault" 204)),("__firstlineno__",207,(.int 5 206)),("__init__",215,(hR 35)),("__static_attributes__",217,(hR 36))] 5,ct [],bR .none [(.int 7 0),(.int 4 0),(hR 34)],mU "TclFault" 198 5 25,mY 27 24 cZ],
aU (dE 2 0) "TclFault." .none cZ 29 208,
[ct [(t "why" 216)],fW P (.type "dict") [("__module__",203,cZ),("__firstlineno__",207,(.int 5 206)),("__init__",215,(hR 35)),("__static_attributes__",217,(hR 36)),("__weakref__",219,(hR 39)),("__doc__",220,.none)] 3,lP "TclFault" [(.type "Exception")] [(hR 38),(.type "Exception"),(.type "BaseException"),(.type "object")] 37 u (some (hR 22)) 196 204 "Exception.__new__",bR (.type "getset_descriptor") [(t "__weakref__" 218),(hR 38),(.builtin "ExceptionGroup.__weakref__"),.none],bR (.type "super") [(hR 38),(hR 38),(hR 38)],bR (.type "builtin_function_or_method") [(.builtin "object.__init_subclass__"),(hR 38)],ct [(hR 38)],bR (.type "builtin_function_or_method") [(.builtin "type.__prepare__"),(.type "type")],fW P (.type "dict") [("__module__",232,cZ),("__qualname__",234,(t "Misused" 233)),("__firstlineno__",236,(.int 10 235)),("__static_attributes__",237,(hR 49))] 4,ct [],bR .none [],mU "Misused" 227 10 45,mY 47 44 cZ,ct [],fW P (.type "dict") [("__module__",232,cZ),("__firstlineno__",236,(.int 10 235)),("__static_attributes__",237,(hR 49)),("__doc__",238,.none)] 2,lP "Misused" [(hR 38)] [(hR 51),(hR 38),(.type "Exception"),(.type "BaseException"),(.type "object")] 50 [] (some (hR 42)) 225 233 "Exception.__new__",bR (.type "super") [(hR 51),(hR 51),(hR 51)],bR (.type "builtin_function_or_method") [(.builtin "object.__init_subclass__"),(hR 51)],ct [(hR 38)],bR (.type "builtin_function_or_method") [(.builtin "type.__prepare__"),(.type "type")],fW P (.type "dict") [("__module__",248,cZ),("__qualname__",250,(t "OutOfFuel" 249)),("__firstlineno__",252,(.int 12 251)),("__static_attributes__",253,(hR 61))] 4,ct [],bR .none [],mU "OutOfFuel" 243 12 57,mY 59 56 cZ,ct [],fW P (.type "dict") [("__module__",248,cZ),("__firstlineno__",252,(.int 12 251)),("__static_attributes__",253,(hR 61)),("__doc__",254,.none)] 2,lP "OutOfFuel" [(hR 38)] [(hR 63),(hR 38),(.type "Exception"),(.type "BaseException"),(.type "object")] 62 [] (some (hR 54)) 241 249 "Exception.__new__",bR (.type "super") [(hR 63),(hR 63),(hR 63)],bR (.type "builtin_function_or_method") [(.builtin "object.__init_subclass__"),(hR 63)],ct [(.type "Exception")],bR (.type "builtin_function_or_method") [(.builtin "type.__prepare__"),(.type "type")],fW P (.type "dict") [("__module__",264,cZ),("__qualname__",266,(t "Raised" 265)),("__firstlineno__",268,(.int 14 267)),("__init__",283,(hR 81)),("__static_attributes__",293,(hR 82))] 5,ct [],bR .none [(.int 16 0),(.int 4 0),(hR 80)],mU "Raised" 259 14 69,mY 71 68 cZ,ct [(t "NONE" 269)],ct [(hR 73),(.int 0 270),(.int 0 271)]],
aU (dE 5 0) "Raised." (hR 74) cZ 75 272,
[ct [(t "code" 284),(t "errorcode" 285),(t "extra" 286),(t "info" 287),(t "is_noted" 288),(t "level" 289),(t "line" 290),(t "ret" 291),(t "value" 292)],FY P,Eo P,bR (.type "getset_descriptor") [(t "__weakref__" 294),(hR 84),(.builtin "ExceptionGroup.__weakref__"),.none],bR (.type "super") [(hR 84),(hR 84),(hR 84)],bR (.type "builtin_function_or_method") [(.builtin "object.__init_subclass__"),(hR 84)],ct [],bR (.type "builtin_function_or_method") [(.builtin "type.__prepare__"),(.type "type")],fW P (.type "dict") [("__module__",308,cZ),("__qualname__",310,(t "Nest" 309)),("__firstlineno__",312,(.int 27 311)),("__init__",324,(hR 102)),("__static_attributes__",329,(hR 103))] 5,ct [],bR .none [(.int 29 0),(.int 4 0),(hR 101)],mU "Nest" 303 27 91,mY 93 90 cZ,ct [.none,(.bool false),(t "" 313)]],
aU (dE 6 0) "Nest." (hR 95) cZ 96 314,
[ct [(t "back" 325),(t "is_proc" 326),(t "label" 327),(t "script" 328)],fW P (.type "dict") [("__module__",308,cZ),("__firstlineno__",312,(.int 27 311)),("__init__",324,(hR 102)),("__static_attributes__",329,(hR 103)),("__dict__",331,(hR 106)),("__weakref__",333,(hR 107)),("__doc__",334,.none)] 4,lP "Nest" [(.type "object")] [(hR 105),(.type "object")] 104 [] none 301 309 "object.__new__",bR (.type "getset_descriptor") [(t "__dict__" 330),(hR 105),(.builtin "function.__dict__"),(.builtin "function.__dict__#set")],bR (.type "getset_descriptor") [(t "__weakref__" 332),(hR 105),(.builtin "ExceptionGroup.__weakref__"),.none],bR (.type "super") [(hR 105),(hR 105),(hR 105)],bR (.type "builtin_function_or_method") [(.builtin "object.__init_subclass__"),(hR 105)],ct [],bR (.type "builtin_function_or_method") [(.builtin "type.__prepare__"),(.type "type")],fW P (.type "dict") [("__module__",344,cZ),("__qualname__",346,(t "Pause" 345)),("__firstlineno__",348,(.int 34 347)),("__init__",357,(hR 123)),("__static_attributes__",360,(hR 124))] 5,ct [],bR .none [(.int 36 0),(.int 4 0),(hR 122)],mU "Pause" 339 34 113,mY 115 112 cZ],
aU (dE 7 0) "Pause." .none cZ 117 349,
[ct [(t "kind" 358),(t "words" 359)],fW P (.type "dict") [("__module__",344,cZ),("__firstlineno__",348,(.int 34 347)),("__init__",357,(hR 123)),("__static_attributes__",360,(hR 124)),("__dict__",362,(hR 127)),("__weakref__",364,(hR 128)),("__doc__",365,.none)] 4,lP "Pause" [(.type "object")] [(hR 126),(.type "object")] 125 [] none 337 345 "object.__new__",bR (.type "getset_descriptor") [(t "__dict__" 361),(hR 126),(.builtin "function.__dict__"),(.builtin "function.__dict__#set")],bR (.type "getset_descriptor") [(t "__weakref__" 363),(hR 126),(.builtin "ExceptionGroup.__weakref__"),.none],bR (.type "super") [(hR 126),(hR 126),(hR 126)],bR (.type "builtin_function_or_method") [(.builtin "object.__init_subclass__"),(hR 126)],ct [(t "NONE" 368)],ct [(hR 131)]],
aU (bj 8) "" (hR 132) cZ 133 369,
aU (bj 9) "" .none cZ 140 377,
aU (bj 10) "" .none cZ 147 384,
aU (bj 11) "" .none cZ 154 391,
aU (bj 12) "" .none cZ 161 403,
aU (bj 13) "" .none cZ 168 411,
aU (bj 14) "" .none cZ 175 419,
aU (bj 15) "" .none cZ 182 426,
aU (bj 17) "" .none sg 189 438,
aU (bj 18) "" .none sg 196 445,
aU (bj 19) "" .none sg 203 453,
aU (bj 20) "" .none sg 210 464,
aU (bj 21) "" .none sg 217 471,
aU (bj 22) "" .none sg 224 483,
aU (bj 23) "" .none sg 231 493,
aU (bj 25) "" .none Gq 238 503,
aU (bj 26) "" .none Gq 245 515,
aU (bj 27) "" .none Gq 252 526,
aU (bj 29) "" .none lV 259 539,
aU (bj 30) "" .none lV 266 549,
aU (bj 31) "" .none lV 273 560,
aU (bj 32) "" .none lV 280 570,
aU (bj 33) "" .none lV 287 580,
aU (bj 34) "" .none lV 294 588,
aU (bj 35) "" .none lV 301 597,
aU (bj 36) "" .none lV 308 613,
[ct [(.bool false)]],
aU (bj 37) "" (hR 315) lV 316 622,
aU (bj 38) "" .none lV 323 633,
aU (bj 40) "" .none n8 330 644,
aU (bj 41) "" .none n8 337 652,
aU (bj 42) "" .none n8 344 663,
aU (bj 44) "" .none uH 351 674,
aU (bj 45) "" .none uH 358 687,
aU (bj 46) "" .none uH 365 698,
aU (bj 47) "" .none uH 372 707,
[ct [(.bool false)]],
aU (bj 48) "" (hR 379) uH 380 717,
aU (bj 50) "" .none wH 387 734,
aU (bj 51) "" .none wH 394 743,
aU (bj 52) "" .none wH 401 756,
aU (bj 53) "" .none wH 408 770,
aU (bj 54) "" .none wH 415 779,
[ct [],bR (.type "builtin_function_or_method") [(.builtin "type.__prepare__"),(.type "type")],fW P (.type "dict") [("__module__",801,xa),("__qualname__",803,(t "Var" 802)),("__firstlineno__",805,(.int 476 804)),("__init__",812,(hR 435)),("__static_attributes__",819,(hR 436))] 5,ct [],bR .none [(.int 478 0),(.int 4 0),(hR 434)],mU "Var" 796 476 425,mY 427 424 xa],
aU (dE 56 0) "Var." .none xa 429 806,
[ct [(t "is_busy" 813),(t "is_element" 814),(t "kind" 815),(t "traces" 816),(t "value" 817),(t "writes" 818)],fW P (.type "dict") [("__module__",801,xa),("__firstlineno__",805,(.int 476 804)),("__init__",812,(hR 435)),("__static_attributes__",819,(hR 436)),("__dict__",821,(hR 439)),("__weakref__",823,(hR 440)),("__doc__",824,.none)] 4,lP "Var" [(.type "object")] [(hR 438),(.type "object")] 437 [] none 794 802 "object.__new__",bR (.type "getset_descriptor") [(t "__dict__" 820),(hR 438),(.builtin "function.__dict__"),(.builtin "function.__dict__#set")],bR (.type "getset_descriptor") [(t "__weakref__" 822),(hR 438),(.builtin "ExceptionGroup.__weakref__"),.none],bR (.type "super") [(hR 438),(hR 438),(hR 438)],bR (.type "builtin_function_or_method") [(.builtin "object.__init_subclass__"),(hR 438)],ct [],bR (.type "builtin_function_or_method") [(.builtin "type.__prepare__"),(.type "type")],fW P (.type "dict") [("__module__",836,cI),("__qualname__",838,(t "Host" 837)),("__firstlineno__",840,(.int 486 839)),("__init__",850,(hR 457)),("tool",858,(hR 464)),("spend",865,(hR 471)),("where",872,(hR 478)),("run",881,(hR 485)),("run_global",889,(hR 492)),("call",898,(hR 499)),("finish",907,(hR 506)),("leave",915,(hR 513)),("outcome",923,(hR 520)),("__static_attributes__",933,(hR 521))] 14,ct [],bR .none [(.int 488 0),(.int 4 0),(hR 456),(.int 499 0),(.int 4 0),(hR 463),(.int 504 0),(.int 4 0),(hR 470),(.int 509 0),(.int 4 0),(hR 477),(.int 512 0),(.int 4 0),(hR 484),(.int 522 0),(.int 4 0),(hR 491),(.int 525 0),(.int 4 0),(hR 498),(.int 535 0),(.int 4 0),(hR 505),(.int 545 0),(.int 4 0),(hR 512),(.int 549 0),(.int 4 0),(hR 519)],mU "Host" 831 486 446,mY 448 445 cI,ct [(.int 40 841),.none]],
aU (dE 58 0) "Host." (hR 450) cI 451 842,
aU (dE 58 1) "Host." .none cI 458 851,
aU (dE 58 2) "Host." .none cI 465 859,
aU (dE 58 3) "Host." .none cI 472 866,
aU (dE 58 4) "Host." .none cI 479 873,
aU (dE 58 5) "Host." .none cI 486 882,
aU (dE 58 6) "Host." .none cI 493 890,
aU (dE 58 7) "Host." .none cI 500 899,
aU (dE 58 8) "Host." .none cI 507 908,
aU (dE 58 9) "Host." .none cI 514 916,
[ct [(t "coroutine" 924),(t "depth" 925),(t "epoch" 926),(t "frame" 927),(t "fuel" 928),(t "inline" 929),(t "limit" 930),(t "spent" 931),(t "tools" 932)],fW P (.type "dict") [("__module__",836,cI),("__firstlineno__",840,(.int 486 839)),("__init__",850,(hR 457)),("tool",858,(hR 464)),("spend",865,(hR 471)),("where",872,(hR 478)),("run",881,(hR 485)),("run_global",889,(hR 492)),("call",898,(hR 499)),("finish",907,(hR 506)),("leave",915,(hR 513)),("outcome",923,(hR 520)),("__static_attributes__",933,(hR 521)),("__dict__",935,(hR 524)),("__weakref__",937,(hR 525)),("__doc__",938,.none)] 4,lP "Host" [(.type "object")] [(hR 523),(.type "object")] 522 w none 829 837 "object.__new__",bR (.type "getset_descriptor") [(t "__dict__" 934),(hR 523),(.builtin "function.__dict__"),(.builtin "function.__dict__#set")],bR (.type "getset_descriptor") [(t "__weakref__" 936),(hR 523),(.builtin "ExceptionGroup.__weakref__"),.none],bR (.type "super") [(hR 523),(hR 523),(hR 523)],bR (.type "builtin_function_or_method") [(.builtin "object.__init_subclass__"),(hR 523)]],
aU (bj 59) "" .none cI 528 941,
aU (bj 60) "" .none cI 535 950,
aU (bj 61) "" .none cI 542 958,
aU (bj 62) "" .none cI 549 967,
aU (bj 63) "" .none cI 556 977,
[ct [(hR 523)],bR (.type "builtin_function_or_method") [(.builtin "type.__prepare__"),(.type "type")],fW P (.type "dict") [("__module__",994,cI),("__qualname__",996,(t "SmallHost" 995)),("__firstlineno__",998,(.int 573 997)),("__init__",1008,(hR 577)),("has",1016,(hR 584)),("place",1024,(hR 591)),("read_var",1033,(hR 598)),("write_var",1043,(hR 605)),("read",1051,(hR 612)),("write",1060,(hR 619)),("drop",1068,(hR 626)),("stamp",1076,(hR 633)),("array",1086,(hR 640)),("put",1096,(hR 648)),("remove",1104,(hR 655)),("add",1112,(hR 662)),("is_first",1120,(hR 669)),("begin",1130,(hR 676)),("__static_attributes__",1134,(hR 677))] 19,ct [],bR .none [(.int 575 0),(.int 4 0),(hR 576),(.int 581 0),(.int 4 0),(hR 583),(.int 584 0),(.int 4 0),(hR 590),(.int 587 0),(.int 4 0),(hR 597),(.int 592 0),(.int 4 0),(hR 604),(.int 595 0),(.int 4 0),(hR 611),(.int 598 0),(.int 4 0),(hR 618),(.int 601 0),(.int 4 0),(hR 625),(.int 606 0),(.int 4 0),(hR 632),(.int 609 0),(.int 4 0),(hR 639),(.int 613 0),(.int 4 0),(hR 647),(.int 616 0),(.int 4 0),(hR 654),(.int 619 0),(.int 4 0),(hR 661),(.int 622 0),(.int 4 0),(hR 668),(.int 625 0),(.int 4 0),(hR 675)],mU "SmallHost" 989 573 566,mY 568 565 cI,ct [(.int 40 999),.none]],
aU (dE 64 0) "SmallHost." (hR 570) cI 571 1000,
aU (dE 64 1) "SmallHost." .none cI 578 1009,
aU (dE 64 2) "SmallHost." .none cI 585 1017,
aU (dE 64 3) "SmallHost." .none cI 592 1025,
aU (dE 64 4) "SmallHost." .none cI 599 1034,
aU (dE 64 5) "SmallHost." .none cI 606 1044,
aU (dE 64 6) "SmallHost." .none cI 613 1052,
aU (dE 64 7) "SmallHost." .none cI 620 1061,
aU (dE 64 8) "SmallHost." .none cI 627 1069,
aU (dE 64 9) "SmallHost." .none cI 634 1077,
[ct [.none]],
aU (dE 64 10) "SmallHost." (hR 641) cI 642 1087,
aU (dE 64 11) "SmallHost." .none cI 649 1097,
aU (dE 64 12) "SmallHost." .none cI 656 1105,
aU (dE 64 13) "SmallHost." .none cI 663 1113,
aU (dE 64 14) "SmallHost." .none cI 670 1121,
[ct [(t "commands" 1131),(t "firsts" 1132),(t "vars" 1133)],fW P (.type "dict") [("__module__",994,cI),("__firstlineno__",998,(.int 573 997)),("__init__",1008,(hR 577)),("has",1016,(hR 584)),("place",1024,(hR 591)),("read_var",1033,(hR 598)),("write_var",1043,(hR 605)),("read",1051,(hR 612)),("write",1060,(hR 619)),("drop",1068,(hR 626)),("stamp",1076,(hR 633)),("array",1086,(hR 640)),("put",1096,(hR 648)),("remove",1104,(hR 655)),("add",1112,(hR 662)),("is_first",1120,(hR 669)),("begin",1130,(hR 676)),("__static_attributes__",1134,(hR 677)),("__doc__",1135,.none)] 2,lP "SmallHost" [(hR 523)] [(hR 679),(hR 523),(.type "object")] 678 [] (some (hR 563)) 987 995 "object.__new__",bR (.type "super") [(hR 679),(hR 679),(hR 679)],bR (.type "builtin_function_or_method") [(.builtin "object.__init_subclass__"),(hR 679)]],
aU (bj 66) "" .none cR 682 1140,
aU (bj 67) "" .none cR 689 1146,
aU (bj 68) "" .none cR 696 1152,
qn (bj 69) "" .none cR 703 1161,
qn (bj 70) "" .none cR 708 1167,
aU (bj 71) "" .none cR 713 1173,
aU (bj 72) "" .none cR 720 1186,
aU (bj 73) "" .none cR 727 1194,
aU (bj 74) "" .none cR 734 1205,
qn (bj 75) "" .none cR 741 1211,
aU (bj 76) "" .none cR 746 1217,
aU (bj 77) "" .none cR 753 1227,
aU (bj 78) "" .none cR 760 1242,
aU (bj 79) "" .none cR 767 1251,
aU (bj 80) "" .none cR 774 1261,
aU (bj 81) "" .none cR 781 1268,
qn (bj 82) "" .none cR 788 1280,
aU (bj 83) "" .none cR 793 1286,
qn (bj 84) "" .none cR 800 1295,
qn (bj 85) "" .none cR 805 1301,
aU (bj 86) "" .none cR 810 1307,
aU (bj 87) "" .none cR 817 1313,
qn (bj 88) "" .none cR 824 1321,
aU (bj 89) "" .none cR 829 1327,
qn (bj 90) "" .none cR 836 1339,
aU (bj 91) "" .none cR 841 1345]
noncomputable def hE:List (String×Nat×Nat):=[("_wall",193,21),("TclFault",224,38),("Misused",240,51),("OutOfFuel",256,63),("Raised",300,84),("Nest",336,105),("Pause",367,126),("error",376,139),("wrong_args",383,146),("listing",390,153),("pick",402,160),("cut",410,167),("note_row",418,174),("end_return",425,181),("end_proc",435,188),("is_blank",444,195),("digit",452,202),("digits_value",463,209),("base_of",470,216),("whole_of",482,223),("bool_of",492,230),("need_bool",500,237),("hex_sign",514,244),("octal_sign",525,251),("backslash",536,258),("check_behind",548,265),("braced_element",559,272),("quoted_element",569,279),("bare_element",579,286),("find_element",587,293),("split_list",596,300),("mode_of",612,307),("escaped",621,314),("quote",632,322),("join_list",641,329),("dict_fault",651,336),("dict_of",662,343),("text_of_dict",671,350),("in_set",686,357),("behind_one",697,364),("put_places",706,371),("folded",716,378),("fits",731,386),("two_names",742,393),("run_pair",755,400),("filter_script",769,407),("fits_one",778,414),("dict_filter",791,421),("Var",826,438),("Host",940,523),("no_variable",949,534),("var_in",957,541),("put_value",966,548),("elements_in",976,555),("act",986,562),("SmallHost",1137,679),("_law_atoms",1145,688),("_law_truths",1151,695),("_law_cell",1160,702),("_law_put",1166,707),("_law_dict",1172,712),("_law_drawn",1185,719),("_law_names",1193,726),("_law_pass",1204,733),("_law_watched",1210,740),("_law_look",1216,745),("_law_write",1226,752),("_law_run",1241,759),("_law_done",1250,766),("_law_out",1260,773),("_law_wrong",1267,780),("_law_noted",1279,787),("_law_book",1285,792),("_law_change",1294,799),("_law_passes",1300,804),("_law_script",1306,809),("_law_pieces",1312,816),("_law_takes",1320,823),("_law_fits",1326,828),("_law_patterns",1338,835),("_law_look_through",1344,840),("law",1353,847)]
noncomputable def h3(P:Of)(m:Value)(k:Nat):Obj:=fW P (.type "dict") (("__name__",165,m)::([("__doc__",166,.none),("__package__",167,.none),("__loader__",168,(.builtin "__main__.__loader__#opaque")),("__spec__",169,.none),("__annotations__",170,(hR 6)),("__builtins__",171,(hR 4)),("__file__",173,(t "/claim/cut.py" 172)),("__cached__",174,.none)]++(hE.take k).map fun q=>(q.1,q.2.1,hR q.2.2))) (9+k)
noncomputable def hC:List (Nat×Nat):=[(1,20),(5,27),(10,47),(12,59),(14,71),(27,93),(34,115),(39,138),(41,145),(43,152),(47,159),(58,166),(62,173),(69,180),(77,187),(92,194),(94,201),(105,208),(115,215),(125,222),(145,229),(159,236),(165,243),(182,250),(192,257),(210,264),(217,271),(232,278),(245,285),(255,292),(265,299),(272,306),(306,313),(313,321),(325,328),(331,335),(338,342),(349,349),(356,356),(376,363),(389,370),(394,377),(403,385),(426,392),(431,399),(442,406),(455,413),(460,420),(476,427),(486,448),(551,533),(554,540),(558,547),(563,554),(569,561),(573,568),(632,687),(634,694),(636,701),(638,706),(642,711),(649,718),(667,725),(674,732),(682,739),(684,744),(686,751),(694,758),(705,765),(710,772),(712,779),(714,786),(719,791),(721,798),(732,803),(752,808),(777,815),(779,822),(787,827),(793,834),(805,839),(823,846)]
noncomputable def iN(k:Nat):Obj:=bR .none (WO ((hC.take k).map fun q=>[hI q.1,hI 0,hR q.2]))
noncomputable def FZ(P:Of):Obj:=fW P .none [("type.__subclasses__.Exception.0",221,(.int 38 0)),("type.__subclasses__.Exception.n",222,(.int 1 0))] 2
noncomputable def iy(P:Of):Obj:=fW P .none [("type.__subclasses__.Exception.0",221,(.int 38 0)),("type.__subclasses__.Exception.n",222,(.int 2 0)),("type.__subclasses__.Exception.1",297,(.int 84 0))] 3
noncomputable def hA(P:Of)(a b c:Obj)(u w:List Value):List Obj:=[boot_o_0 P,boot_o_1 P,a,b,boot_o_4 P,boot_o_5 P,boot_o_6 P,boot_o_7 P,boot_o_8 P,boot_o_9 P,boot_o_10 P,ct [],c]++(hO P u w).drop 2
noncomputable def hS:List Obj->List Obj×List Obj
 | []=>([],[])
 |x::r=>(x::(hS r).2,(hS r).1)
noncomputable def hB:Nat->List Obj->BT
 |0,_ => .nil
 |_,[] => .nil
 |k+1,x::r=>n x (hB k (hS r).1) (hB k (hS r).2)
noncomputable def wR(P:Of):BT:=hB 11 ((hA P (boot_o_2 P) (boot_o_3 P) (iN 0) [] []).take 15)
noncomputable def LY(P:Of):List Obj:=(hA P (FZ P) (h3 P cZ 2) (iN 2) [] []).take 42
noncomputable def Jx(P:Of):BT:=hB 11 (LY P)
noncomputable def Mm(P:Of):List Obj:=(hA P (FZ P) (h3 P cZ 4) (iN 4) [(hR 51),(hR 63)] []).take 66
noncomputable def IU(P:Of):BT:=hB 11 (Mm P)
noncomputable def KP(P:Of):List Obj:=(hA P (iy P) (h3 P cZ 5) (iN 5) [(hR 51),(hR 63)] []).take 88
noncomputable def Jr(P:Of):BT:=hB 11 (KP P)
noncomputable def MV(P:Of):List Obj:=(hA P (iy P) (h3 P cZ 6) (iN 6) [(hR 51),(hR 63)] []).take 110
noncomputable def IS(P:Of):BT:=hB 11 (MV P)
noncomputable def KD(P:Of):List Obj:=(hA P (iy P) (h3 P cZ 14) (iN 14) [(hR 51),(hR 63)] []).take 182
noncomputable def I9(P:Of):BT:=hB 11 (KD P)
noncomputable def KV(P:Of):List Obj:=(hA P (iy P) (h3 P lV 27) (iN 27) [(hR 51),(hR 63)] []).take 273
noncomputable def JB(P:Of):BT:=hB 11 (KV P)
noncomputable def Lx(P:Of):List Obj:=(hA P (iy P) (h3 P uH 40) (iN 40) [(hR 51),(hR 63)] []).take 365
noncomputable def Jc(P:Of):BT:=hB 11 (Lx P)
noncomputable def Mz(P:Of):List Obj:=(hA P (iy P) (h3 P xa 48) (iN 48) [(hR 51),(hR 63)] []).take 422
noncomputable def Jl(P:Of):BT:=hB 11 (Mz P)
noncomputable def Nq(P:Of):List Obj:=(hA P (iy P) (h3 P cI 49) (iN 49) [(hR 51),(hR 63)] []).take 443
noncomputable def Jz(P:Of):BT:=hB 11 (Nq P)
noncomputable def Mg(P:Of):List Obj:=(hA P (iy P) (h3 P cI 50) (iN 50) [(hR 51),(hR 63)] []).take 528
noncomputable def IJ(P:Of):BT:=hB 11 (Mg P)
noncomputable def JI(P:Of):List Obj:=(hA P (iy P) (h3 P cI 55) (iN 55) [(hR 51),(hR 63)] []).take 563
noncomputable def FU(P:Of):BT:=hB 11 (JI P)
noncomputable def Kf(P:Of):List Obj:=(hA P (iy P) (h3 P cI 56) (iN 56) [(hR 51),(hR 63)] [(hR 679)]).take 682
noncomputable def Ga(P:Of):BT:=hB 11 (Kf P)
noncomputable def JQ(P:Of):List Obj:=(hA P (iy P) (h3 P cR 70) (iN 70) [(hR 51),(hR 63)] [(hR 679)]).take 774
noncomputable def Du(P:Of):BT:=hB 11 (JQ P)
noncomputable def zg(P:Of):List Obj:=(hA P (iy P) (h3 P cR 82) (iN 82) [(hR 51),(hR 63)] [(hR 679)]).take 848
noncomputable def En(P:Of):BT:=hB 11 (zg P)
noncomputable def C6(P:Of):Po:=⟨N4 ((hA P (boot_o_2 P) (boot_o_3 P) (iN 0) [] []).take 15),lf⟩
noncomputable def oG(P:Of):Po:=⟨N4 (zg P),lf⟩
noncomputable def FC:List Addr:=(OX 847).map (· + 1)
noncomputable def KK(P:Of):U3:=FC.zip (zg P).tail
noncomputable def dU:Option Value:=some (.ref 6)
noncomputable def eC:R0:={scope:=pw.main.scope,locals:=mainNs,globals:=mainNs,cells:=[],code := .ref 13,frame:=some 14}
noncomputable def bE:List Stmt:=behindTheImports pw
noncomputable def cE:Code := .body bE eC
noncomputable def fp:W7:=⟨0,0,0,0⟩
noncomputable def BB:List Frame:=[Vx fp]
noncomputable def tk:List Stmt->Nat->List Stmt
 |_,0=>[]
 | [],_=>[]
 |x::r,k+1=>x::tk r k
noncomputable def dp:List Stmt->Nat->List Stmt
 |l,0=>l
 | [],_=>[]
 |_::r,k+1=>dp r k
noncomputable def cu(i k:Nat):List Stmt:=tk (dp pw.main.body i) k
theorem un{w:World}{k:Nat}{S:SharedT}{th:Thread}{r:Option (W8×SharedT×Code×W7)}(h:PySem.W.Fast.tw10110043849684766642 PySem.W.Fast.tw14364793385576792824 pw w 11 dU 1 k S th=r):Qk Pm pw w 11 dU 1 k S th=r:=by
 rw[PySem.W.Fast.te10110043849684766642,PySem.W.Fast.te14364793385576792824];exact h
theorem pre(w:World)(os:OsState):topGo Pm pw w 11 dU 12 ⟨Ri w.params,N4 [],boot_drawn,boot_toks,os⟩ (topStub pw)=some (⟨C6 w.params,N4 [],dr,187,os⟩,⟨denote Pm cE,cE,⟨0,0,0,0⟩,BB⟩):=by
 rw[PySem.W.Fast.te15667345088766844465,PySem.W.Fast.te14364793385576792824,PySem.W.Fast.te11892475500146522536]
 kernel_rfl
theorem LQ(w:World)(os:OsState):Qk Pm pw w 11 dU 1 1 ⟨wR w.params,15,lf,N4 [],dr,187,os⟩ (blockOf bE eC cE ⟨0,0,0,0⟩ BB)=some (.next,⟨wR w.params,15,lf,N4 [],dr,187,os⟩,(cE,⟨0,0,0,0⟩)):=by
 refine un ?_
 kernel_rfl
theorem Ln(P:Of):C6 P=absHeap (wR P) 15 lf:=by kernel_rfl
theorem Mq(w:World)(os:OsState):Qk Pm pw w 11 dU 1 267 ⟨wR w.params,15,lf,N4 [],dr,187,os⟩ (Qh (cu 0 3) eC cE ⟨0,0,0,0⟩ BB)=some (.next,⟨Jx w.params,42,lf,N4 [],dr,225,os⟩,(cE,⟨5,0,9,22⟩)):=by
 refine un ?_
 kernel_rfl
theorem Lp(w:World)(os:OsState):Qk Pm pw w 11 dU 1 427 ⟨Jx w.params,42,lf,N4 [],dr,225,os⟩ (Qh (cu 3 2) eC cE ⟨5,0,9,22⟩ BB)=some (.next,⟨IU w.params,66,lf,N4 [],dr,257,os⟩,(cE,⟨12,0,13,8⟩)):=by
 refine un ?_
 kernel_rfl
theorem K2(w:World)(os:OsState):Qk Pm pw w 11 dU 1 247 ⟨IU w.params,66,lf,N4 [],dr,257,os⟩ (Qh (cu 5 1) eC cE ⟨12,0,13,8⟩ BB)=some (.next,⟨Jr w.params,88,lf,N4 [],dr,301,os⟩,(cE,⟨14,0,26,23⟩)):=by
 refine un ?_
 kernel_rfl
theorem KU(w:World)(os:OsState):Qk Pm pw w 11 dU 1 231 ⟨Jr w.params,88,lf,N4 [],dr,301,os⟩ (Qh (cu 6 1) eC cE ⟨14,0,26,23⟩ BB)=some (.next,⟨IS w.params,110,lf,N4 [],dr,337,os⟩,(cE,⟨27,0,33,26⟩)):=by
 refine un ?_
 kernel_rfl
theorem Lm(w:World)(os:OsState):Qk Pm pw w 11 dU 1 440 ⟨IS w.params,110,lf,N4 [],dr,337,os⟩ (Qh (cu 7 8) eC cE ⟨27,0,33,26⟩ BB)=some (.next,⟨I9 w.params,182,lf,N4 [],dr,426,os⟩,(cE,⟨69,0,76,16⟩)):=by
 refine un ?_
 kernel_rfl
theorem Ma(w:World)(os:OsState):Qk Pm pw w 11 dU 1 442 ⟨I9 w.params,182,lf,N4 [],dr,426,os⟩ (Qh (cu 15 16) eC cE ⟨69,0,76,16⟩ BB)=some (.next,⟨JB w.params,273,lf,N4 [],dr,560,os⟩,(cE,⟨217,0,231,82⟩)):=by
 refine un ?_
 kernel_rfl
theorem KI(w:World)(os:OsState):Qk Pm pw w 11 dU 1 440 ⟨JB w.params,273,lf,N4 [],dr,560,os⟩ (Qh (cu 31 15) eC cE ⟨217,0,231,82⟩ BB)=some (.next,⟨Jc w.params,365,lf,N4 [],dr,698,os⟩,(cE,⟨376,0,388,13⟩)):=by
 refine un ?_
 kernel_rfl
theorem K4(w:World)(os:OsState):Qk Pm pw w 11 dU 1 288 ⟨Jc w.params,365,lf,N4 [],dr,698,os⟩ (Qh (cu 46 10) eC cE ⟨376,0,388,13⟩ BB)=some (.next,⟨Jl w.params,422,lf,N4 [],dr,794,os⟩,(cE,⟨475,0,475,8⟩)):=by
 refine un ?_
 kernel_rfl
theorem LV(w:World)(os:OsState):Qk Pm pw w 11 dU 1 236 ⟨Jl w.params,422,lf,N4 [],dr,794,os⟩ (Qh (cu 56 2) eC cE ⟨475,0,475,8⟩ BB)=some (.next,⟨Jz w.params,443,lf,N4 [],dr,829,os⟩,(cE,⟨485,0,485,8⟩)):=by
 refine un ?_
 kernel_rfl
theorem Ml(w:World)(os:OsState):Qk Pm pw w 11 dU 1 523 ⟨Jz w.params,443,lf,N4 [],dr,829,os⟩ (Qh (cu 58 1) eC cE ⟨485,0,485,8⟩ BB)=some (.next,⟨IJ w.params,528,lf,N4 [],dr,941,os⟩,(cE,⟨486,0,550,16⟩)):=by
 refine un ?_
 kernel_rfl
theorem Kh(w:World)(os:OsState):Qk Pm pw w 11 dU 1 157 ⟨IJ w.params,528,lf,N4 [],dr,941,os⟩ (Qh (cu 59 5) eC cE ⟨486,0,550,16⟩ BB)=some (.next,⟨FU w.params,563,lf,N4 [],dr,987,os⟩,(cE,⟨569,0,572,36⟩)):=by
 refine un ?_
 kernel_rfl
theorem Kk(w:World)(os:OsState):Qk Pm pw w 11 dU 1 710 ⟨FU w.params,563,lf,N4 [],dr,987,os⟩ (Qh (cu 64 1) eC cE ⟨569,0,572,36⟩ BB)=some (.next,⟨Ga w.params,682,lf,N4 [],dr,1138,os⟩,(cE,⟨573,0,630,45⟩)):=by
 refine un ?_
 kernel_rfl
theorem JT(w:World)(os:OsState):Qk Pm pw w 11 dU 1 433 ⟨Ga w.params,682,lf,N4 [],dr,1138,os⟩ (Qh (cu 65 15) eC cE ⟨573,0,630,45⟩ BB)=some (.next,⟨Du w.params,774,lf,N4 [],dr,1261,os⟩,(cE,⟨710,0,711,70⟩)):=by
 refine un ?_
 kernel_rfl
theorem Kl(w:World)(os:OsState):Qk Pm pw w 11 dU 1 348 ⟨Du w.params,774,lf,N4 [],dr,1261,os⟩ (Qh (cu 80 12) eC cE ⟨710,0,711,70⟩ BB)=some (.next,⟨En w.params,848,lf,N4 [],dr,1354,os⟩,(cE,⟨823,0,825,84⟩)):=by
 refine un ?_
 kernel_rfl
theorem fin(w:World)(os:OsState):topRun Pm pw w 11 dU 2 (TK ⟨En w.params,848,lf,N4 [],dr,1354,os⟩) ⟨doneF .next,cE,⟨823,0,825,84⟩,BB⟩=some ⟨oG w.params,N4 [],dr,1354,os⟩:=by
 rw[PySem.W.Fast.te14082659384304107361,PySem.W.Fast.te14364793385576792824]
 kernel_rfl
theorem Ka:bE=(cu 0 3++(cu 3 2++(cu 5 1++(cu 6 1++(cu 7 8++(cu 15 16++(cu 31 15++(cu 46 10++(cu 56 2++(cu 58 1++(cu 59 5++(cu 64 1++(cu 65 15++(cu 80 12++[])))))))))))))):=by kernel_rfl
theorem run : ∃M,OB M 10476=true/\∀(w:World) (os:OsState),topRun Pm pw w 11 dU M ⟨Ri w.params,N4 [],boot_drawn,boot_toks,os⟩ (topStub pw)=some ⟨oG w.params,N4 [],dr,1354,os⟩:=by
 refine⟨12+(1+(267+(427+(247+(231+(440+(442+(440+(288+(236+(523+(157+(710+(433+(348+2))))))))))))))),by rfl,fun w os=>go_top (pre w os) ?_⟩
 ·rw[show(⟨C6 w.params,N4 [],dr,187,os⟩:Shared)=TK ⟨wR w.params,15,lf,N4 [],dr,187,os⟩ from by unfold TK;rw[Ln]]
  refine piece_block (PQ (LQ w os)) ?_
  rw[show restOf bE eC cE ⟨0,0,0,0⟩ [Vx fp]=restOf (cu 0 3++(cu 3 2++(cu 5 1++(cu 6 1++(cu 7 8++(cu 15 16++(cu 31 15++(cu 46 10++(cu 56 2++(cu 58 1++(cu 59 5++(cu 64 1++(cu 65 15++(cu 80 12++[])))))))))))))) eC cE ⟨0,0,0,0⟩ [Vx fp] from congrArg (fun b=>restOf b eC cE ⟨0,0,0,0⟩ [Vx fp]) Ka]
  exact PV (PQ (Mq w os)) (PV (PQ (Lp w os)) (PV (PQ (K2 w os)) (PV (PQ (KU w os)) (PV (PQ (Lm w os)) (PV (PQ (Ma w os)) (PV (PQ (KI w os)) (PV (PQ (K4 w os)) (PV (PQ (LV w os)) (PV (PQ (Ml w os)) (PV (PQ (Kh w os)) (PV (PQ (Kk w os)) (PV (PQ (JT w os)) (PV (PQ (Kl w os)) (piece_nil (fin w os)))))))))))))))
noncomputable def view:Q0:={pw with main:={pw.main with body:=[bj 91]}}
noncomputable def loose:List Str:=[s "_wall",s "TclFault",s "Misused",s "OutOfFuel",s "Raised",s "Nest",s "Pause",s "error",s "wrong_args",s "listing",s "pick",s "cut",s "note_row",s "end_return",s "end_proc",s "is_blank",s "digit",s "digits_value",s "base_of",s "whole_of",s "bool_of",s "need_bool",s "hex_sign",s "octal_sign",s "backslash",s "check_behind",s "braced_element",s "quoted_element",s "bare_element",s "find_element",s "split_list",s "mode_of",s "escaped",s "quote",s "join_list",s "dict_fault",s "dict_of",s "text_of_dict",s "in_set",s "behind_one",s "put_places",s "folded",s "fits",s "two_names",s "run_pair",s "filter_script",s "fits_one",s "dict_filter",s "Var",s "Host",s "no_variable",s "var_in",s "put_value",s "elements_in",s "act",s "SmallHost",s "_law_atoms",s "_law_truths",s "_law_cell",s "_law_put",s "_law_dict",s "_law_drawn",s "_law_names",s "_law_pass",s "_law_watched",s "_law_look",s "_law_write",s "_law_run",s "_law_done",s "_law_out",s "_law_wrong",s "_law_noted",s "_law_book",s "_law_change",s "_law_passes",s "_law_script",s "_law_pieces",s "_law_takes",s "_law_fits",s "_law_patterns",s "_law_look_through"]
noncomputable def Xq:Shared->Bool:=fun x=>xlAt view [] x&&recOk (RowW.records PySem.Challenge.rw_pb0573_01.row.toRowW) x
theorem KW:opening pw=plainProg pw.main.scope.names:=by kernel_rfl
theorem Nx(x:Shared):fenceModules? pw x=some x:=by kernel_rfl
theorem KR(w:World):((Ri w.params).isNs mainGlobals&&(N4 ([]:List GenState)).size==0,(Ri w.params).objs.size,(Ri w.params).nsMap mainGlobals "__annotations__")=(true,11,dU):=by kernel_rfl
theorem Gj(w:World)(os:OsState):(staticsOk (Xz pw.main.body) (Ri w.params) (oG w.params)&&namesBound pw (oG w.params)&&gensDone ⟨oG w.params,N4 [],dr,1354,os⟩&&laidKept (Ri w.params) (oG w.params))=true:=by kernel_rfl
theorem NK(w:World)(os:OsState):openSeen view loose (Xz pw.main.body) Xq true ⟨oG w.params,N4 [],dr,1354,os⟩=openGood view loose:=by
 rw[PySem.W.Fast.te4187177175401517315]
 kernel_rfl
theorem KA(P:Of):FC=(KK P).map (·.1):=by kernel_rfl
noncomputable def HK:Hook:=kHook KK FC KA
theorem Lw(w:World)(os:OsState):HK.obs ⟨oG w.params,N4 [],dr,1354,os⟩=HK.val w:=by kernel_rfl
theorem left:LeftO pw view loose Xq HK.obs HK.val 10476:=by
 obtain⟨M,hM,hr⟩:=run;exact LeftO.of_pieces (H₀:=Ri) (H₁:=oG) (boot_open KW rfl Nx) KR hr hM fun w=>funext fun os=>looks_pair (Gj w os) (looks_pair (NK w os) (Lw w os))
theorem Km:PySem.Challenge.rw_pb0573_01.wellSaid=true:=(congrFun PySem.W.Fast.te9446332074065402090 _).trans (by kernel_rfl)
end Mine
end
end
section
set_option genSizeOf false
set_option genSizeOfSpec false
set_option genInjectivity false
namespace Mine
theorem ba{l r L R:Nat}(h:l<=r)(e:L+r<=R+l:=by simp +arith only):L<=R:=Nat.le_of_add_le_add_right (N0 e (UN h R))
theorem bX{l r k q L R:Nat}(h:l<=r)(g:k<=q)(e:L+(r+q)<=R+(l+k):=by simp +arith only):L<=R:=ba (QA h g) e
theorem jx{l r k q m n L R:Nat}(h:l<=r)(g:k<=q)(i:m<=n)(e:L+(r+q+n)<=R+(l+k+m):=by simp +arith only):L<=R:=ba (QA (QA h g) i) e
theorem vK{C:Prop}{l r:Nat}(h:l<=r)(e:r+1<=l:=by simp +arith only):C:=absurd (N0 e h) (Nat.not_succ_le_self r)
theorem kn{C:Prop}{l r k q:Nat}(h:l<=r)(g:k<=q)(e:r+q+1<=l+k:=by simp +arith only):C:=vK (QA h g) e
theorem E9{l r L R:Nat}(h:l=r)(e:L+r=R+l:=by simp +arith only):L=R:=Nat.add_right_cancel (h▸e)
theorem cb{a b:Nat}(h:a=b):a<=b:=h▸Ox a
theorem pJ{a b:Nat}(h:a=b):b<=a:=h▸Ox a
theorem eR(c:Nat){a b:Nat}(h:a<=b):c * a<=c * b:=R3 c h
theorem bg{a c d:Nat}(h:a<=c)(g:OB c d=true:=by rfl):a<=d:=N0 h (N9 g)
theorem ot{a c d:Nat}(h:a<=c)(g:OB (c+1) d=true:=by rfl):a<d:=Se h (N9 g)
noncomputable abbrev PG:Q0:=PySem.Challenge.rw_pb0573_01.row.prog
noncomputable abbrev Tx:=List Nat
noncomputable abbrev aP(l:Tx):Str:=⟨l.toArray⟩
noncomputable def cps(s:Str):Tx:=s.cps.toList
theorem uf(l:Tx):cps (aP l)=l:=by simp[cps]
theorem mx{a b:Tx}(h:aP a=aP b):a=b:=by
 have:=congrArg cps h;simpa [uf] using this
inductive D where
 |none
 |bool (b:Bool)
 |int (i:Int)
 |str (s:Tx)
 |tup (l:List D)
 |lst (l:List D)
 |bH (l:List (Tx×D))
 |gs (l:List (Int×D))
 |eF (a b c:Int)
 |val (v:Value)
 deriving Inhabited
inductive V where
 |d (x:D)
 |loc (n:Nat)
 deriving Inhabited
inductive Pt where
 |obj (o:Obj)
 |tup (l:List D)
 |lst (l:List D) (pin:Option Obj)
 |bH (l:List (Tx×D)) (ep:Nat)
 |gs (l:List (Int×D)) (ep:Nat)
 |eF (a b c:Int)
 |tb
inductive Mu where
 |list (l:List D)
 |sd (l:List (Tx×D))
 |vd (l:List (Tx×V))
 |nd (l:List (Int×D))
 |inst (C:Addr) (fs:List (Nat×V))
 |exc (C:Addr) (fs:List (Nat×D)) (ctx:Bool) (T:Bool)
noncomputable abbrev aq:=List (Option V)
noncomputable abbrev ag:=List (Option Mu)
noncomputable abbrev aX:=List Addr
noncomputable abbrev aF:=Addr->Option Pt
inductive Own where
 |fr
 |cl
 |it (o:Obj)
 |ns (mv:Str->Option Value)
 |bp (p:Pt)
 |mu (o:Mu)
 |sub (a:Addr)
def VR(τ:aF):D->Value->Prop
 | .none,v=>v = .none
 | .bool b,v=>v = .bool b
 | .int i,v => ∃t,v = .int i t
 | .str s,v => ∃t,v = .str (aP s) t
 | .tup l,v => ∃a,v = .ref a/\τ a=some (.tup l)
 | .lst l,v => ∃a,v = .ref a/\∃pin,τ a=some (.lst l pin)
 | .bH l,v => ∃a,v = .ref a/\∃ep,τ a=some (.bH l ep)
 | .gs l,v => ∃a,v = .ref a/\∃ep,τ a=some (.gs l ep)
 | .eF x y z,v => ∃a,v = .ref a/\τ a=some (.eF x y z)
 | .val x,v=>v=x
def VV(τ:aF)(θ:aX):V->Value->Prop
 | .d x,v=>VR τ x v
 | .loc n,v => ∃a,v = .ref a/\θ[n]?=some a
def Rel2{α β:Type}(R:α->β->Prop):List α->List β->Prop
 | [],[]=>True
 |d::ds,v::vs=>R d v/\Rel2 R ds vs
 |_,_=>False
abbrev bz(τ:aF):List D->List Value->Prop:=Rel2 (VR τ)
abbrev bT(τ:aF)(θ:aX):List V->List Value->Prop:=Rel2 (VV τ θ)
section
variable{α β:Type}{R R':α->β->Prop}
theorem Rel2.ind{P:List α->List β->Prop}(h0:P [] [])(h1 : ∀a b as bs,R a b->Rel2 R as bs->P as bs->P (a::as) (b::bs)){as:List α}: ∀{bs:List β},Rel2 R as bs->P as bs:=by
 induction as with
 |nil=>
  intro bs h;cases bs with
  |nil=>exact h0
  |cons b bs=>exact Rz h
 |cons a as ih=>
  intro bs h;cases bs with
  |nil=>exact Rz h
  |cons b bs=>exact h1 a b as bs h.1 h.2 (ih h.2)
theorem Rel2.map{as:List α}{bs:List β}(f : ∀a b,R a b->R' a b)(h:Rel2 R as bs):Rel2 R' as bs:=Rel2.ind trivial (fun _ _ _ _ r _ ih=>⟨f _ _ r,ih⟩) h
theorem Rel2.len{as:List α}{bs:List β}(h:Rel2 R as bs):as.length=bs.length:=Rel2.ind (R:=R) (P:=fun as bs=>as.length=bs.length) rfl (fun _ _ as bs _ _ (ih:as.length=bs.length)=>congrArg Nat.succ ih) h
theorem Rel2.app{as es:List α}{bs us:List β}(h:Rel2 R as bs)(h2:Rel2 R es us):Rel2 R (as++es) (bs++us):=Rel2.ind (P:=fun as bs=>Rel2 R (as++es) (bs++us)) h2 (fun a b as bs r _ ih=>show Rel2 R (a::(as++es)) (b::(bs++us)) from⟨r,ih⟩) h
theorem Rel2.at_{as:List α}{bs:List β}(h:Rel2 R as bs): ∀{i:Nat} {d:α},as[i]?=some d->∃v,bs[i]?=some v/\R d v:=fun{i d} e=>
 Rel2.ind (P:=fun as bs => ∀(i:Nat) (d:α),as[i]?=some d->∃v,bs[i]?=some v/\R d v) (fun _ _ e=>nomatch e) (fun a b _ _ r _ ih i d e=>by
  cases i with
  |zero=>exact⟨b,rfl,j' e▸r⟩
  |succ i=>exact ih i d e) h i d e
theorem Rel2.flip{as:List α}{bs:List β}(h:Rel2 R as bs):Rel2 (fun b a=>R a b) bs as:=Rel2.ind (P:=fun as bs=>Rel2 (fun b a=>R a b) bs as) trivial (fun _ _ _ _ r _ ih=>⟨r,ih⟩) h
theorem Rel2.nil{bs:List β}(h:Rel2 R [] bs):bs=[]:=by
 cases bs with
 |nil=>rfl
 |cons=>exact Rz h
theorem Rel2.cons{d:α}{ds:List α}{bs:List β}(h:Rel2 R (d::ds) bs): ∃v us,bs=v::us/\R d v/\Rel2 R ds us:=by
 cases bs with
 |nil=>exact Rz h
 |cons v us=>exact⟨v,us,rfl,h.1,h.2⟩
theorem Rel2.skip{as:List α}{bs:List β}(h:Rel2 R as bs)(n:Nat):Rel2 R (as.drop n) (bs.drop n):=Rel2.ind (P:=fun as bs => ∀n,Rel2 R (as.drop n) (bs.drop n)) (fun n=>by rw[Wn,Wn];trivial) (fun _ _ _ _ r h ih n=>by
 cases n with
 |zero=>exact⟨r,h⟩
 |succ n=>exact ih n) h n
theorem Rel2.tk{as:List α}{bs:List β}(h:Rel2 R as bs)(n:Nat):Rel2 R (as.take n) (bs.take n):=Rel2.ind (P:=fun as bs => ∀n,Rel2 R (as.take n) (bs.take n)) (fun n=>by rw[Wm,Wm];trivial) (fun _ _ _ _ r h ih n=>by
 cases n with
 |zero=>trivial
 |succ n=>exact⟨r,ih n⟩) h n
end
def bD{K J E:Type}(R:E->Value->Prop)(f:K->J):List (K×E)->List (J×Value)->Prop
 | [],[]=>True
 |d::ds,v::vs=>f d.1=v.1/\R d.2 v.2/\bD R f ds vs
 |_,_=>False
def Le(τ Ow:aF):Prop := ∀a p,τ a=some p->Ow a=some p
theorem Le.refl(τ:aF):Le τ τ:=fun _ _ e=>e
theorem Le.trans{a b c:aF}(x:Le a b)(y:Le b c):Le a c:=fun _ _ e=>y _ _ (x _ _ e)
def Lt(θ OT:aX):Prop := ∀(n:Nat) (a:Addr),θ[n]?=some a->OT[n]?=some a
theorem Lt.refl(τ:aX):Lt τ τ:=fun _ _ e=>e
theorem Lt.trans{a b c:aX}(x:Lt a b)(y:Lt b c):Lt a c:=fun _ _ e=>y _ _ (x _ _ e)
theorem Lt.app(a b:aX):Lt a (a++b):=fun n x e=>by
 rw[Pf];exact e;exact(N3.mp e).1
theorem VR.mono{τ Ow:aF}(l:Le τ Ow){d:D}{v:Value}(h:VR τ d v):VR Ow d v:=by
 cases d with
 |tup ds=>obtain⟨a,rfl,e⟩:=h;exact⟨a,rfl,l _ _ e⟩
 |lst ds=>obtain⟨a,rfl,ep,e⟩:=h;exact⟨a,rfl,ep,l _ _ e⟩
 |bH ds=>obtain⟨a,rfl,ep,e⟩:=h;exact⟨a,rfl,ep,l _ _ e⟩
 |gs ds=>obtain⟨a,rfl,ep,e⟩:=h;exact⟨a,rfl,ep,l _ _ e⟩
 |eF x y z=>obtain⟨a,rfl,e⟩:=h;exact⟨a,rfl,l _ _ e⟩
 |_=>exact h
theorem VV.mono{τ Ow:aF}{θ OT:aX}(l:Le τ Ow)(k:Lt θ OT){d:V}{v:Value}(h:VV τ θ d v):VV Ow OT d v:=by
 cases d with
 |d x=>exact VR.mono l h
 |loc n=>obtain⟨a,rfl,e⟩:=h;exact⟨a,rfl,k _ _ e⟩
theorem bz.mono{τ Ow:aF}(l:Le τ Ow){ds:List D}{vs:List Value}(h:bz τ ds vs):bz Ow ds vs:=h.map fun _ _ r=>r.mono l
theorem bT.mono{τ Ow:aF}{θ OT:aX}(l:Le τ Ow)(k:Lt θ OT){ds:List V}{vs:List Value}(h:bT τ θ ds vs):bT Ow OT ds vs:=h.map fun _ _ r=>r.mono l k
theorem bD.ind{K J E:Type}{R:E->Value->Prop}{f:K->J}{P:List (K×E)->List (J×Value)->Prop}(h0:P [] [])(h1 : ∀p q as bs,f p.1=q.1->R p.2 q.2->bD R f as bs->P as bs->P (p::as) (q::bs)){ds:List (K×E)}: ∀{vs:List (J×Value)},bD R f ds vs->P ds vs:=by
 induction ds with
 |nil=>
  intro vs h;cases vs with
  |nil=>exact h0
  |cons=>exact Rz h
 |cons a as ih=>
  intro vs h;cases vs with
  |nil=>exact Rz h
  |cons b bs=>exact h1 a b as bs h.1 h.2.1 h.2.2 (ih h.2.2)
theorem bD.mono{K J E:Type}{R R':E->Value->Prop}(l : ∀e v,R e v->R' e v){f:K->J}{ds:List (K×E)}{vs:List (J×Value)}(h:bD R f ds vs):bD R' f ds vs:=bD.ind (P:=bD R' f) trivial (fun _ _ _ _ e r _ ih=>⟨e,l _ _ r,ih⟩) h
theorem bz.length{τ:aF}{ds:List D}{vs:List Value}(h:bz τ ds vs):ds.length=vs.length:=Rel2.len h
theorem bT.length{τ:aF}{θ}{ds:List V}{vs:List Value}(h:bT τ θ ds vs):ds.length=vs.length:=Rel2.len h
theorem bz.append{τ:aF}{ds:List D}{vs:List Value}{es us}(h:bz τ ds vs)(h2:bz τ es us):bz τ (ds++es) (vs++us):=Rel2.app h h2
theorem bz.get{τ:aF}{ds:List D}{vs:List Value}(h:bz τ ds vs){i:Nat}{d:D}(e:ds[i]?=some d): ∃v,vs[i]?=some v/\VR τ d v:=Rel2.at_ h e
theorem bz.get'{τ:aF}{ds:List D}{vs:List Value}(h:bz τ ds vs){i:Nat}{v:Value}(e:vs[i]?=some v): ∃d,ds[i]?=some d/\VR τ d v:=Rel2.at_ h.flip e
theorem bz.gh{τ:aF}{vs:List Value}(h:bz τ [] vs):vs=[]:=Rel2.nil h
theorem bz.dN{τ:aF}{d ds}{vs:List Value}(h:bz τ (d::ds) vs): ∃v us,vs=v::us/\VR τ d v/\bz τ ds us:=Rel2.cons h
theorem bT.gh{τ:aF}{θ}{vs:List Value}(h:bT τ θ [] vs):vs=[]:=Rel2.nil h
theorem bT.dN{τ:aF}{θ}{d ds}{vs:List Value}(h:bT τ θ (d::ds) vs): ∃v us,vs=v::us/\VV τ θ d v/\bT τ θ ds us:=Rel2.cons h
noncomputable def AN:List Str:=["code","value","errorcode","level","ret","info","is_noted","line","extra","tools","inline","limit","fuel","depth","spent","epoch","frame","coroutine","vars","commands","firsts","kind","traces","is_busy","is_element","writes"]
def k4(mA:Str->Option Value):Prop := ∀x:Str,x∉AN->mA x=none
def sb(C:Addr):Prop:=C=679\/C=438
def vj(C:Addr):Prop:=C=84
noncomputable def dF{α:Type}(k:Nat):List (Nat×α)->Option α
 | []=>none
 |x::r=>cond (I' k x.1) (some x.2) (dF k r)
theorem Cn{α:Type}{k:Nat}:dF k ([]:List (Nat×α))=none:=rfl
theorem Bo{α:Type}{k:Nat}{x:Nat×α}{r:List (Nat×α)}:dF k (x::r)=cond (I' k x.1) (some x.2) (dF k r):=rfl
def qK(τ:aF)(θ:aX)(fs:List (Nat×V))(mA:Str->Option Value):Prop := ∀(i:Nat) (v:V),dF i fs=some v->∃x u,AN[i]?=some x/\mA x=some u/\VV τ θ v u
def At(σ:Addr->Option Own)(τ:aF)(θ:aX)(w:World)(h:Po)(a:Addr):Own->Prop
 | .fr => ∃mv,h.Ns a mv
 | .cl => ∃v,h.IsCell a v
 | .it o=>h.get? a=some o
 | .ns mv=>h.Ns a mv
 | .bp (.obj o)=>h.get? a=some o
 | .bp (.tup l) => ∃vs,UL h a vs/\bz τ l vs.toList
 | .bp (.lst l pin)=>(∃vs,h.IsList a vs/\bz τ l vs.toList)/\∀x,pin=some x->h.get? a=some x
 | .bp (.bH l ep) => ∃kvs,h.DictAt (strKind PG w) a kvs ep/\bD (VR τ) aP l kvs
 | .bp (.gs l ep) => ∃kvs,h.DictAt (intKind PG w) a kvs ep/\bD (VR τ) id l kvs
 | .bp (.eF x y z) => ∃t u v,IsRange h a x y z t u v
 | .bp .tb => ∃o ts,h.get? a=some o/\o.data = .fields ts/\3<ts.size
 | .mu (.list l) => ∃vs,PlainL h a vs/\bz τ l vs.toList
 | .mu (.sd l) => ∃kvs,h.DictOf (strKind PG w) a kvs/\bD (VR τ) aP l kvs
 | .mu (.vd l) => ∃kvs,h.DictOf (strKind PG w) a kvs/\bD (VV τ θ) aP l kvs
 | .mu (.nd l) => ∃kvs,h.DictOf (intKind PG w) a kvs/\bD (VR τ) id l kvs
 | .mu (.inst C fs) => ∃d mA,h.get? a=some {cls := .ref C,dict:=some d,data := .plain,slots := #[]}/\h.Ns1 d mA/\σ d=some (.sub a)/\(k4 mA/\sb C)/\qK τ θ fs mA
 | .mu (.exc C fs ctx T) => ∃(od:Option Addr) (mA:Str->Option Value) (vs:Array Value),h.get? a=some {cls := .ref C,dict:=od,data := .fields vs,slots := #[]}/\(∀d,od=some d->h.Ns1 d mA/\σ d=some (.sub a))/\
   (od=none->∀x,mA x=none)/\(k4 mA/\vj C)/\qK τ θ (fs.map fun p=>(p.1,.d p.2)) mA/\
   4<vs.size/\(ctx=false->vs[2]?=some .none)/\(T=true->vs[1]?≠some .none)/\(∀x,vs[1]?=some x->x≠ .none->∃t,x = .ref t/\τ t=some .tb)
 | .sub _ => ∃o,h.get? a=some o
structure Cx where
 w:World
 h0:Po
 os:OsState
 A:Around
 env:R0
 held:Addr->Option Own
 lv:Nat
 ns:List Str
 hd:Option (Nat×Addr):=none
structure Base(w:World)(h0:Po):Prop where
 sm : ∃o,h0.get? QR=some o
 K:(KK w.params).In h0
 T : ∃mg mb,h0.Ns mainGlobals mg/\h0.Ns builtinsNs mb/\h0.NoLimit/\∀x:Str,x≠"__name__"->mb x=RT x
structure Cx.WF(c:Cx):Prop where
 base:Base c.w c.h0
 kind:c.env.scope.kind = .function
 globals:c.env.globals=mainGlobals
 builtins:c.env.builtins=builtinsNs
 eL : ∀x k,c.env.kindOf x=some k->(x==("__debug__":Str))=false
 cX : ∀x k,c.env.kindOf x=some k->(x==("__classdict__":Str))=false
 vars : ∀x∈c.ns,c.env.kindOf x=some .local\/c.env.kindOf x=some .cell\/c.env.kindOf x=some .free
 once:c.ns.Nodup
 n7:c.held c.env.locals=none
 fK : ∀a o,c.held a=some o->(∃x,o = .it x)\/∃mv,o = .ns mv
 dW : ∀x y a,c.env.cells.lookup x=some a->c.env.cells.lookup y=some a->x=y
 above:848<=c.env.locals
 depth:c.A.depth<=301+3 * c.lv
 units:c.A.units<=10+10 * c.lv
 frames : ∃l,c.A.frames=some l/\(∃e r,l=e::r/\c.env.frame=e.frame)/\∀e∈l,e.scope.kind≠ .module/\∃L,e.frame=some L/\(L=c.env.locals\/∃m,c.held L=some (.ns m))
structure Len(hd:Option (Nat×Addr))(θ:aX)(Γ:ag):Prop where
 eq:θ.length=Γ.length
 pin : ∀(k:Nat) (a:Addr),hd=some (k,a)->θ[k]?=some a
structure OK(c:Cx)(σ:Addr->Option Own)(τ:aF)(θ:aX)(ρ:aq)(Γ:ag)(h:Po):Prop where
 at_ : ∀a o,σ a=some o->At σ τ θ c.w h a o
 bp : ∀a p,τ a=some p↔σ a=some (.bp p)
 fr:σ c.env.locals=some .fr
 loc : ∀mv,h.Ns c.env.locals mv->∀(i:Nat) (x:Str) (v:V),c.ns[i]?=some x->ρ[i]?=some (some v)->c.env.kindOf x=some .local->∃u,mv x=some u/\VV τ θ v u
 cell : ∀(i:Nat) (x:Str),c.ns[i]?=some x->c.env.kindOf x≠some .local->∃a,c.env.cells.lookup x=some a/\σ a=some .cl/\∀v,ρ[i]?=some (some v)->∃u,h.IsCell a (some u)/\VV τ θ v u
 held : ∀a o,c.held a=some o->σ a=some o
 len:Len c.hd θ Γ
 inj : ∀(n m:Nat) (a:Addr),θ[n]?=some a->θ[m]?=some a->n=m
 eo : ∀(n:Nat) (a:Addr),θ[n]?=some a->∃o,σ a=some o/\((∃m,o = .mu m)\/∃p,o = .bp p)
 d6 : ∀(n:Nat) (a:Addr) (m:Mu),Γ[n]?=some (some m)->θ[n]?=some a->σ a=some (.mu m)
structure SR(c:Cx)(τ:aF)(θ:aX)(ρ:aq)(Γ:ag)(s:Shared):Prop where
 wf:c.WF
 rl:ρ.length=c.ns.length
 own : ∃σ:Addr->Option Own,OK c σ τ θ ρ Γ s.heap
 base : ∀a o,c.h0.get? a=some o->τ a=some (.obj o)
 gens:s.gens = #[]
 os:s.os=c.os
noncomputable abbrev PE:=Nat->aq->ag->Prop
def isExc(Γ:ag)(n:Nat):Prop := ∃C fs x t,Γ[n]?=some (some (Mu.exc C fs x t))
inductive XP(c:Cx)(τ:aF)(θ:aX)(X:PE)(e:Value)(s':Shared):Prop
 |mk (Ow:aF) (OT:aX) (n:Nat) (a:Addr) (O3:aq) (Γ':ag) (l:Le τ Ow) (k:Lt θ OT) (e1:e = .ref a) (e2:OT[n]?=some a) (S:SR c Ow OT O3 Γ' s') (i:isExc Γ' n) (x:X n O3 Γ')
inductive QP(c:Cx)(τ:aF)(θ:aX){α β:Type}(R:aF->aX->β->α->Prop)(Q:β->aq->ag->Prop)(v:α)(s':Shared):Prop
 |mk (Ow:aF) (OT:aX) (d:β) (O3:aq) (Γ':ag) (l:Le τ Ow) (k:Lt θ OT) (r:R Ow OT d v) (S:SR c Ow OT O3 Γ' s') (q:Q d O3 Γ')
def WT(c:Cx){α β:Type}(R:aF->aX->β->α->Prop)(t:Su α)(Q:β->aq->ag->Prop)(X:PE)(ρ:aq)(Γ:ag):Prop:=
 ∀τ θ s,SR c τ θ ρ Γ s->N5 (M' PG c.w) c.A t (QP c τ θ R Q) (XP c τ θ X) s
theorem XP.weaken{c:Cx}{τ Ow:aF}{θ OT:aX}{X:PE}{e s}(l:Le τ Ow)(k:Lt θ OT)(h:XP c Ow OT X e s):XP c τ θ X e s:=by
 obtain⟨t,th,n,a,r,g,l',k',e,x,y,z,u⟩:=h;exact⟨t,th,n,a,r,g,l.trans l',k.trans k',e,x,y,z,u⟩
theorem QP.weaken{c:Cx}{τ Ow:aF}{θ OT:aX}{α β:Type}{R:aF->aX->β->α->Prop}{Q:β->aq->ag->Prop}{v:α}{s}(l:Le τ Ow)(k:Lt θ OT)(h:QP c Ow OT R Q v s):QP c τ θ R Q v s:=by
 obtain⟨t,th,a,r,g,l',k',e,x,y⟩:=h;exact⟨t,th,a,r,g,l.trans l',k.trans k',e,x,y⟩
structure Lq(τ:aF)(θ:aX)(Ow:aF)(OT:aX):Prop where
 l:Le τ Ow
 k:Lt θ OT
theorem Lq.refl(τ θ):Lq τ θ τ θ:=⟨.refl _,.refl _⟩
theorem Lq.trans{τ θ Ow OT Pu O5}(a:Lq τ θ Ow OT)(b:Lq Ow OT Pu O5):Lq τ θ Pu O5:=⟨a.l.trans b.l,a.k.trans b.k⟩
theorem lift {c:Cx} {α β:Type} {R:aF->aX->β->α->Prop} {t:Su α} {X:PE} {τ OJ:aF} {θ OQ:aX} {s:Shared} {Q:β->aq->ag->Prop}
  (l:Lq OJ OQ τ θ) (h:N5 (M' PG c.w) c.A t (QP c τ θ R Q) (XP c τ θ X) s):N5 (M' PG c.w) c.A t (QP c OJ OQ R Q) (XP c OJ OQ X) s:=Ob h (fun _ _ x=>x.weaken l.l l.k) fun _ _ x=>x.weaken l.l l.k
def RV:aF->aX->V->Value->Prop:=VV
def Ft:aF->aX->List V->List Value->Prop:=bT
def RB:aF->aX->Bool->Bool->Prop:=fun _ _ b v=>v=b
inductive Fl where
 |next | brk | cont
 |ret (d:V)
def RF(τ:aF)(θ:aX):Fl->W8->Prop
 | .next,f=>f = .next
 | .brk,f=>f = .brk
 | .cont,f=>f = .cont
 | .ret d,f => ∃v,f = .ret v/\VV τ θ d v
def RU:aF->aX->Unit->Unit->Prop:=fun _ _ _ _=>True
theorem qK.mono{τ Ow θ OT fs mA}(l:Le τ Ow)(k:Lt θ OT)(h:qK τ θ fs mA):qK Ow OT fs mA:=fun i v e=>let ⟨x,u,a,b,d⟩:=h i v e;⟨x,u,a,b,d.mono l k⟩
theorem At.dQ{σ τ Ow θ OT w h h' a o}(l:Le τ Ow)(lt:Lt θ OT)(σ':Addr->Option Own)(WS : ∀b c,σ b=some (.sub c)->σ' b=some (.sub c))(H:At σ τ θ w h a o)(k:h'.get? a=h.get? a)(k2 : ∀d,σ d=some (.sub a)->h'.get? d=h.get? d):At σ' Ow OT w h' a o:=by
 cases o with
 |fr=>obtain⟨mv,⟨o,es,ep,ho,r⟩⟩:=H;exact⟨mv,⟨o,es,ep,k.trans ho,r⟩⟩
 |ns mv=>obtain⟨o,es,ep,ho,r⟩:=H;exact⟨o,es,ep,k.trans ho,r⟩
 |cl=>obtain⟨v,⟨o,ho,hd⟩⟩:=H;exact⟨v,⟨o,k.trans ho,hd⟩⟩
 |it o=>exact k.trans H
 |sub b=>obtain⟨o,ho⟩:=H;exact⟨o,k.trans ho⟩
 |bp p=>cases p with
  |obj o=>exact k.trans H
  |tup ds=>obtain⟨vs,⟨o,ho,r⟩,hr⟩:=H;exact⟨vs,⟨o,k.trans ho,r⟩,hr.mono l⟩
  |lst ds pin=>obtain⟨⟨vs,⟨o,ho,r⟩,hr⟩,hp⟩:=H;exact⟨⟨vs,⟨o,k.trans ho,r⟩,hr.mono l⟩,fun x e=>k.trans (hp x e)⟩
  |bH ds ep=>obtain⟨vs,⟨o,es,ho,r⟩,hr⟩:=H;exact⟨vs,⟨o,es,k.trans ho,r⟩,hr.mono fun e v h=>h.mono l⟩
  |gs ds ep=>obtain⟨vs,⟨o,es,ho,r⟩,hr⟩:=H;exact⟨vs,⟨o,es,k.trans ho,r⟩,hr.mono fun e v h=>h.mono l⟩
  |eF x y z=>obtain⟨t,u,v,ho⟩:=H;exact⟨t,u,v,k.trans ho⟩
  |tb=>obtain⟨o,ts,ho,r⟩:=H;exact⟨o,ts,k.trans ho,r⟩
 |mu m=>cases m with
  |list ds=>obtain⟨vs,⟨o,n,ho,r⟩,hr⟩:=H;exact⟨vs,⟨o,n,k.trans ho,r⟩,hr.mono l⟩
  |sd ds=>obtain⟨vs,⟨o,es,ep,ho,r⟩,hr⟩:=H;exact⟨vs,⟨o,es,ep,k.trans ho,r⟩,hr.mono fun e v h=>h.mono l⟩
  |vd ds=>obtain⟨vs,⟨o,es,ep,ho,r⟩,hr⟩:=H;exact⟨vs,⟨o,es,ep,k.trans ho,r⟩,hr.mono fun e v h=>h.mono l lt⟩
  |nd ds=>obtain⟨vs,⟨o,es,ep,ho,r⟩,hr⟩:=H;exact⟨vs,⟨o,es,ep,k.trans ho,r⟩,hr.mono fun e v h=>h.mono l⟩
  |inst C fs=>
   obtain⟨d,mA,h1,h2,h3,h4,h5⟩:=H;exact⟨d,mA,k.trans h1,h2.at fun o e=>(k2 d h3).trans e,WS _ _ h3,h4,h5.mono l lt⟩
  |exc C fs ctx T=>
   obtain⟨od,mA,vs,h1,h2,h3,h4,h6,h7,h8,h9,h10⟩:=H;exact⟨od,mA,vs,k.trans h1,fun d e=>⟨(h2 d e).1.at fun o e'=>(k2 d (h2 d e).2).trans e',WS _ _ (h2 d e).2⟩,h3,h4,h6.mono l lt,h7,h8,h9,fun x e ne=>let ⟨t,a,b⟩:=h10 x e ne;⟨t,a,l _ _ b⟩⟩
theorem At.there{σ τ θ w h a o}(H:At σ τ θ w h a o): ∃x,h.get? a=some x:=by
 cases o with
 |fr=>obtain⟨mv,⟨o,es,ep,ho,r⟩⟩:=H;exact⟨_,ho⟩
 |ns mv=>obtain⟨o,es,ep,ho,r⟩:=H;exact⟨_,ho⟩
 |cl=>obtain⟨v,⟨o,ho,hd⟩⟩:=H;exact⟨_,ho⟩
 |it o=>exact⟨_,H⟩
 |sub b=>exact H
 |bp p=>cases p with
  |obj o=>exact⟨_,H⟩
  |tup ds=>obtain⟨vs,⟨o,ho,r⟩,hr⟩:=H;exact⟨_,ho⟩
  |lst ds pin=>obtain⟨⟨vs,⟨o,ho,r⟩,hr⟩,hp⟩:=H;exact⟨_,ho⟩
  |bH ds ep=>obtain⟨vs,⟨o,es,ho,r⟩,hr⟩:=H;exact⟨_,ho⟩
  |gs ds ep=>obtain⟨vs,⟨o,es,ho,r⟩,hr⟩:=H;exact⟨_,ho⟩
  |eF x y z=>obtain⟨t,u,v,ho⟩:=H;exact⟨_,ho⟩
  |tb=>obtain⟨o,ts,ho,r⟩:=H;exact⟨_,ho⟩
 |mu m=>cases m with
  |list ds=>obtain⟨vs,⟨o,n,ho,r⟩,hr⟩:=H;exact⟨_,ho⟩
  |sd ds=>obtain⟨vs,⟨o,es,ep,ho,r⟩,hr⟩:=H;exact⟨_,ho⟩
  |vd ds=>obtain⟨vs,⟨o,es,ep,ho,r⟩,hr⟩:=H;exact⟨_,ho⟩
  |nd ds=>obtain⟨vs,⟨o,es,ep,ho,r⟩,hr⟩:=H;exact⟨_,ho⟩
  |inst C fs=>obtain⟨d,mA,h1,_⟩:=H;exact⟨_,h1⟩
  |exc C fs ctx T=>obtain⟨d,mA,vs,h1,_⟩:=H;exact⟨_,h1⟩
theorem fq{h:Po}{a:Addr}{m m':Str->Option Value}(p:h.Ns a m)(q:h.Ns a m'):m=m':=by
 obtain⟨o,es,ep,a1,a2,a3,a4⟩:=p;obtain⟨o',es',ep',b1,b2,b3,b4⟩:=q;injection a1.symm.trans b1 with b1;subst b1
 injection a2.symm.trans b2 with b2;subst b2
 exact funext fun y=>(a4 y).symm.trans (b4 y)
theorem pM{h h':Po}{a:Addr}{m:Str->Option Value}(k:h'.get? a=h.get? a)(q:h'.Ns a m):h.Ns a m:=by
 obtain⟨o,es,ep,a1,a2⟩:=q;exact⟨o,es,ep,k.symm.trans a1,a2⟩
theorem dO{h h':Po}{a:Addr}{m}(k:h'.get? a=h.get? a)(q:h.IsCell a m):h'.IsCell a m:=by
 obtain⟨o,a1,a2⟩:=q;exact⟨o,k.trans a1,a2⟩
noncomputable def upd(σ:Addr->Option Own)(a:Addr)(o:Own):Addr->Option Own:=fun b=>if b=a then some o else σ b
theorem cM{σ a o}:upd σ a o a=some o:=by simp[upd]
theorem bu{σ:Addr->Option Own}{a b o}(h:b≠a):upd σ a o b=σ b:=by simp[upd,h]
noncomputable def cV(τ:aF)(a:Addr)(p:Pt):aF:=fun b=>if b=a then some p else τ b
section
variable{c:Cx}{σ:Addr->Option Own}{τ Ow:aF}{θ OT:aX}{ρ:aq}{Γ:ag}{h h':Po}
theorem OK.there(O:OK c σ τ θ ρ Γ h){a o}(e:σ a=some o): ∃x,h.get? a=some x:=(O.at_ a o e).there
theorem OK.fresh(O:OK c σ τ θ ρ Γ h){a}(e:h.get? a=none):σ a=none:=by
 cases q:σ a with
 |none=>rfl
 |some o=>obtain⟨x,hx⟩:=O.there q;injection e.symm.trans hx
theorem OK.grow(O:OK c σ τ θ ρ Γ h)(k : ∀b o,b≠c.env.locals->h.get? b=some o->h'.get? b=some o)(kL : ∀mv,h.Ns c.env.locals mv->h'.Ns c.env.locals mv):OK c σ τ θ ρ Γ h':=by
 refine⟨fun a o e => ?_,O.bp,O.fr,fun mv hm => ?_,fun i x hx hk => ?_,O.held,O.len,O.inj,O.eo,O.d6⟩
 ·by_cases hL:a=c.env.locals
  ·subst hL
   rw[O.fr] at e;injection e with e;subst e
   obtain⟨mv,h1⟩:=O.at_ _ _ O.fr;exact⟨mv,kL _ h1⟩
  ·have H:=O.at_ a o e
   obtain⟨x,hx⟩:=H.there;refine H.dQ (Le.refl _) (Lt.refl _) _ (fun _ _ e=>e) ((k _ _ hL hx).trans hx.symm) fun d hd => ?_
   obtain⟨y,hy⟩:=O.there hd;refine(k _ _ ?_ hy).trans hy.symm
   rintro rfl;rw[O.fr] at hd;cases hd
 ·obtain⟨mv',h1⟩:=O.at_ _ _ O.fr
  obtain rfl:=fq (kL _ h1) hm;exact O.loc _ h1
 ·obtain⟨a,h1,h2,h3⟩:=O.cell i x hx hk
  refine⟨a,h1,h2,fun v hv => ?_⟩
  obtain⟨u,h4,h5⟩:=h3 v hv;obtain⟨o,ho⟩:=O.there h2;exact⟨u,dO ((k _ _ (by rintro rfl;rw[O.fr] at h2;cases h2) ho).trans ho.symm) h4,h5⟩
theorem OK.keeps(O:OK c σ τ θ ρ Γ h)(k : ∀b o,h.get? b=some o->h'.get? b=some o):OK c σ τ θ ρ Γ h':=
 O.grow (fun b o _ e=>k b o e) fun mv hn=>hn.keeps k
end
end Mine
end
section
namespace Mine
section
variable{c:Cx}{σ:Addr->Option Own}{τ Ow:aF}{θ OT:aX}{ρ:aq}{Γ:ag}{h h':Po}
theorem jq{l:List Str}(hn:l.Nodup){i j:Nat}{x:Str}(a:l[i]?=some x)(b:l[j]?=some x):i=j:=by
 obtain⟨hi,e⟩:=N3.mp a;obtain⟨hj,f⟩:=N3.mp b;exact(List.getElem_inj hn).mp (e.trans f.symm)
theorem OK.sR(O:OK c σ τ θ ρ Γ h)(l:Le τ Ow)(k:Lt θ OT)(e:h'.get? c.env.locals=h.get? c.env.locals): ∀mv,h'.Ns c.env.locals mv->∀(i:Nat) (x:Str) (v:V),c.ns[i]?=some x->ρ[i]?=some (some v)->c.env.kindOf x=some .local->∃u,mv x=some u/\VV Ow OT v u:=
 fun mv hm i x v a b d=>let ⟨u,p,q⟩:=O.loc mv (pM e hm) i x v a b d;⟨u,p,q.mono l k⟩
theorem OK.cellK(O:OK c σ τ θ ρ Γ h)(l:Le τ Ow)(k:Lt θ OT)(σ':Addr->Option Own)(hs : ∀b,σ b=some .cl->σ' b=some .cl/\h'.get? b=h.get? b): ∀(i:Nat) (x:Str),c.ns[i]?=some x->c.env.kindOf x≠some .local->∃a,c.env.cells.lookup x=some a/\σ' a=some .cl/\∀v,ρ[i]?=some (some v)->∃u,h'.IsCell a (some u)/\VV Ow OT v u:=
 fun i x a b=>let ⟨d,p,q,r⟩:=O.cell i x a b;⟨d,p,(hs d q).1,fun v hv=>let ⟨u,y,z⟩:=r v hv;⟨u,dO (hs d q).2 y,z.mono l k⟩⟩
theorem Own.Bu{a b:Addr}(h:Own.sub a=Own.sub b):a=b:=by
 have:some a=some b:=congrArg (fun o=>match o with | Own.sub a=>some a | _=>none) h
 exact j' this
theorem fM{α:Type}{l:List α}{a b:α}{i:Nat}(e:(l++[a])[i]?=some b):l[i]?=some b\/(b=a/\i=l.length):=by
 by_cases hi:i<l.length
 ·rw[Pf hi] at e;exact .inl e
 ·have hi:=Pe hi
  rw[Ov hi] at e;cases q:i-l.length with
  |zero=>rw[q] at e;exact .inr ⟨(j' e).symm,RK (Ul q) hi⟩
  |succ k=>rw[q] at e;exact nomatch e
theorem OK.t9 (O:OK c σ τ θ ρ Γ h) (W:c.WF) {a:Addr} {n:Nat} {m m':Mu} (hn:θ[n]?=some a) (ha:σ a=some (.mu m)) {σ':Addr->Option Own} (s1:σ' a=some (.mu m')) (s2 : ∀b o,b≠a->σ b=some o->σ' b=some o)
  (s3 : ∀b o,σ' b=some o->b=a\/σ b=some o\/(o = .sub a/\∃y,h'.get? b=some y)) (k : ∀b o,b≠a->σ b≠some (.sub a)->h.get? b=some o->h'.get? b=some o)
  (ks : ∀b,σ b=some (.sub a)->∃o,h'.get? b=some o) (H:At σ' τ θ c.w h' a (.mu m')):OK c σ' τ θ ρ (Γ.set n (some m')) h':=by
 have ne : ∀b o,σ b=some o->(∀m,o≠ .mu m)->b≠a:=fun b o e hn q=>hn m (j' ((q▸e).symm.trans ha))
 have kk : ∀b o,σ b=some o->(∀m,o≠ .mu m)->o≠ .sub a->h'.get? b=h.get? b:=fun b o e h1 h2=>by
  obtain⟨x,hx⟩:=O.there e;exact(k _ _ (ne b o e h1) (fun q=>h2 (j' (e.symm.trans q))) hx).trans hx.symm
 have old : ∀b o,σ b=some o->(∀m,o≠ .mu m)->σ' b=some o:=fun b o e n=>s2 _ _ (ne _ _ e n) e
 refine⟨fun b o e => ?_,fun b p=>⟨fun e=>old _ _ ((O.bp b p).mp e) fun _=>Own.noConfusion,fun e=>(O.bp b p).mpr ?_⟩,old _ _ O.fr fun _=>Own.noConfusion,O.sR (.refl _) (.refl _) (kk _ _ O.fr (fun _=>Own.noConfusion) Own.noConfusion),O.cellK (.refl _) (.refl _) _ (fun b e=>⟨old _ _ e fun _=>Own.noConfusion,kk _ _ e (fun _=>Own.noConfusion) Own.noConfusion⟩),fun b o e => ?_,⟨(PS ..).symm▸O.len.eq,O.len.pin⟩,O.inj,fun i b e => ?_,fun i b x e f => ?_⟩
 ·by_cases hb:b=a
  ·rw[hb,s1] at e
   rw[hb,<-j' e];exact H
  rcases s3 b o e with q | e' | ⟨rfl,y,hy⟩
  ·exact absurd q hb
  ·by_cases hs:σ b=some (.sub a)
   ·rw[<-j' (hs.symm.trans e')];exact ks b hs
   ·obtain⟨x,hx⟩:=O.there e'
    refine(O.at_ b o e').dQ (Le.refl _) (Lt.refl _) _ (fun d f q=>old _ _ q fun _=>Own.noConfusion) ((k _ _ hb hs hx).trans hx.symm) fun d hd => ?_
    exact kk _ _ hd (fun _=>Own.noConfusion) fun q=>hb (Own.Bu q)
  ·exact⟨y,hy⟩
 ·rcases s3 b _ e with q | e' | ⟨q,_⟩
  ·rw[q,s1] at e;exact nomatch e
  ·exact e'
  ·exact nomatch q
 ·have q:=O.held b o e
  exact old _ _ q fun m z=>by rcases W.fK b o e with⟨x,rfl⟩ | ⟨x,rfl⟩<;>exact nomatch z
 ·by_cases hb:b=a
  ·exact⟨_,hb▸s1,.inl ⟨_,rfl⟩⟩
  ·obtain⟨o,h1,h2⟩:=O.eo i b e
   exact⟨o,s2 _ _ hb h1,h2⟩
 ·by_cases hi:i=n
  ·subst hi
   obtain rfl:=j' (hn.symm.trans f);rw[Qy (O.len.eq▸(N3.mp hn).1)] at e;rw[<-j' (j' e)];exact s1
  ·rw[OP (PF hi)] at e
   exact s2 _ _ (fun q=>hi (O.inj _ _ _ f (q▸hn))) (O.d6 i b x e f)
theorem OK.change (O:OK c σ τ θ ρ Γ h) (W:c.WF) {a:Addr} {n:Nat} {m m':Mu} (hn:θ[n]?=some a) (ha:σ a=some (.mu m)) (k : ∀b o,b≠a->σ b≠some (.sub a)->h.get? b=some o->h'.get? b=some o)
  (ks : ∀b,σ b=some (.sub a)->∃o,h'.get? b=some o) (H:At (upd σ a (.mu m')) τ θ c.w h' a (.mu m')):OK c (upd σ a (.mu m')) τ θ ρ (Γ.set n (some m')) h':=
 O.t9 W hn ha cM (fun b o hb e=>(bu hb).trans e) (fun b o e=>by
  by_cases hb:b=a
  ·exact .inl hb
  ·exact .inr (.inl ((bu hb).symm.trans e))) k ks H
theorem OK.new (O:OK c σ τ θ ρ Γ h) {a:Addr} {m:Mu} (hn:h.get? a=none) (k : ∀b o,h.get? b=some o->h'.get? b=some o) (σ':Addr->Option Own) (WS : ∀b,h.get? b≠none->σ' b=σ b)
  (ha:σ' a=some (.mu m)) (hx : ∀b o,h.get? b=none->σ' b=some o->b=a\/∃x,o = .sub x/\∃y,h'.get? b=some y) (H:At σ' τ (θ++[a]) c.w h' a (.mu m)):OK c σ' τ (θ++[a]) ρ (Γ++[some m]) h':=by
 have old : ∀b o,σ b=some o->σ' b=some o:=fun b o e=>by
  obtain⟨x,hx⟩:=O.there e;rw[WS b (by rw[hx];simp)];exact e
 have kk : ∀b o,σ b=some o->h'.get? b=h.get? b:=fun b o e=>by
  obtain⟨x,hx⟩:=O.there e;exact(k _ _ hx).trans hx.symm
 have no : ∀i:Nat,θ[i]?≠some a:=fun i e=>by
  obtain⟨o,ho,_⟩:=O.eo i a e;obtain⟨x,hx⟩:=O.there ho;exact nomatch hn.symm.trans hx
 refine⟨fun b o e => ?_,fun b p=>⟨fun e=>old _ _ ((O.bp b p).mp e),fun e=>(O.bp b p).mpr ?_⟩,old _ _ O.fr,O.sR (.refl _) (.app _ _) (kk _ _ O.fr),O.cellK (.refl _) (.app _ _) _ (fun b e=>⟨old _ _ e,kk _ _ e⟩),fun b o e=>old _ _ (O.held b o e),⟨by rw[N1,N1,O.len.eq];rfl,fun k a e=>Lt.app _ _ k a (O.len.pin k a e)⟩,fun i j b e f => ?_,fun i b e => ?_,fun i b x e f => ?_⟩
 ·cases q:h.get? b with
  |none=>
   rcases hx b o q e with hb | ⟨x,rfl,y,hy⟩
   ·rw[hb,ha] at e
    rw[hb,<-j' e];exact H
   ·exact⟨y,hy⟩
  |some x=>
   rw[WS b (by rw[q];exact fun z=>nomatch z)] at e
   exact(O.at_ b o e).dQ (Le.refl _) (.app _ _) _ (fun d f q=>old _ _ q) ((k _ _ q).trans q.symm) fun d hd=>kk _ _ hd
 ·cases q:h.get? b with
  |none=>
   rcases hx b _ q e with hb | ⟨x,hx,_⟩
   ·rw[hb,ha] at e;exact nomatch e
   ·exact nomatch hx
  |some x=>rw[WS b (by rw[q];exact fun z=>nomatch z)] at e;exact e
 ·rcases fM e with e | ⟨e,e'⟩<;>rcases fM f with f | ⟨f,f'⟩
  ·exact O.inj _ _ _ e f
  ·exact absurd (f▸e) (no i)
  ·exact absurd (e▸f) (no j)
  ·exact e'.trans f'.symm
 ·rcases fM e with e | ⟨e,_⟩
  ·obtain⟨o,ho,q⟩:=O.eo i b e
   exact⟨o,old _ _ ho,q⟩
  ·rw[e];exact⟨_,ha,.inl ⟨_,rfl⟩⟩
 ·rcases fM e with e | ⟨e,e2⟩<;>rcases fM f with f | ⟨f,f2⟩
  ·exact old _ _ (O.d6 i b x e f)
  ·exact absurd (N3.mp e).1 (by rw[f2,O.len.eq];exact QM _)
  ·exact absurd (N3.mp f).1 (by rw[e2,<-O.len.eq];exact QM _)
  ·rw[f,j' e];exact ha
theorem OK.Dz(O:OK c σ τ θ ρ Γ h){a:Addr}{m:Mu}(hn:h.get? a=none)(k : ∀b o,h.get? b=some o->h'.get? b=some o)(H:At (upd σ a (.mu m)) τ (θ++[a]) c.w h' a (.mu m)):OK c (upd σ a (.mu m)) τ (θ++[a]) ρ (Γ++[some m]) h':=by
 have ne : ∀b,h.get? b≠none->b≠a:=fun b q e=>by subst e;exact q hn
 refine O.new hn k _ (fun b q=>bu (ne b q)) cM (fun b o q e => ?_) H
 by_cases hb:b=a
 ·exact .inl hb
 ·rw[bu hb,O.fresh q] at e;injection e
theorem OK.kG (O:OK c σ τ θ ρ Γ h) (W:c.WF) {a:Addr} {p:Pt} {Γ':ag} (hn:σ a=none\/∃m,σ a=some (.mu m)) (k : ∀b o,h.get? b=some o->h'.get? b=some o)
  (hl:Γ'.length=Γ.length) (hg : ∀(i:Nat) m,Γ'[i]?=some (some m)->Γ[i]?=some (some m)/\θ[i]?≠some a)
  (H:At (upd σ a (.bp p)) (cV τ a p) θ c.w h' a (.bp p)):OK c (upd σ a (.bp p)) (cV τ a p) θ ρ Γ' h'/\Le τ (cV τ a p):=by
 have ne : ∀b o,σ b=some o->(∀m,o≠ .mu m)->b≠a:=fun b o q hm e=>by
  subst e;rcases hn with hn | ⟨m,hn⟩
  ·rw[hn] at q;cases q
  ·rw[hn] at q;cases q;exact hm _ rfl
 have old : ∀b o,σ b=some o->(∀m,o≠ .mu m)->upd σ a (.bp p) b=some o:=fun b o e hm=>by rw[bu (ne b o e hm)];exact e
 have le:Le τ (cV τ a p):=fun b q e=>by
  have:=ne b _ ((O.bp b q).mp e) (by simp)
  simp[cV,this,e]
 have kk : ∀b o,σ b=some o->h'.get? b=h.get? b:=fun b o e=>by
  obtain⟨x,hx⟩:=O.there e;exact(k _ _ hx).trans hx.symm
 refine⟨⟨fun b o e => ?_,fun b q => ?_,old _ _ O.fr (by simp),O.sR le (.refl _) (kk _ _ O.fr),O.cellK le (.refl _) _ (fun b e=>⟨old _ _ e (by simp),kk _ _ e⟩),fun b o e => ?_,⟨O.len.eq.trans hl.symm,O.len.pin⟩,O.inj,fun i b e => ?_,fun i b m e f => ?_⟩,le⟩
 ·by_cases hb:b=a
  ·subst hb;rw[cM] at e;cases e;exact H
  ·rw[bu hb] at e
   obtain⟨x,hx⟩:=O.there e;refine(O.at_ b o e).dQ le (.refl _) _ (fun d f q=>old _ _ q (by simp)) (kk _ _ e) fun d hd=>kk _ _ hd
 ·by_cases hb:b=a
  ·subst hb;simp[cV,cM];exact⟨congrArg Own.bp,fun e=>by cases e;rfl⟩
  ·rw[bu hb];simp only[cV,hb,if_false];exact O.bp b q
 ·by_cases hb:b=a
  ·subst hb
   have q:=O.held b o e;rcases hn with hn | ⟨m,hn⟩
   ·rw[hn] at q;cases q
   ·rcases W.fK b o e with⟨x,rfl⟩ | ⟨x,rfl⟩<;>(rw[hn] at q;cases q)
  ·rw[bu hb];exact O.held b o e
 ·by_cases hb:b=a
  ·subst hb;exact⟨_,cM,.inr ⟨_,rfl⟩⟩
  ·rw[bu hb];exact O.eo i b e
 ·have⟨e',f'⟩:=hg i m e
  rw[bu (by rintro rfl;exact f' f)];exact O.d6 i b m e' f
theorem OK.store (O:OK c σ τ θ ρ Γ h) (W:c.WF) {i:Nat} {x:Str} {d:V} {v:Value} (hi:c.ns[i]?=some x) (hx:c.env.kindOf x=some .local) (r:VV τ θ d v)
  (hs:Q1 c.env.locals h h') (hN : ∀mv,h.Ns c.env.locals mv->h'.Ns c.env.locals (fun y=>if y=x then some v else mv y)):OK c σ τ θ (ρ.set i (some d)) Γ h':=by
 have kk : ∀b,b≠c.env.locals->h'.get? b=h.get? b:=hs.2;have ne : ∀b o,σ b=some o->o≠ .fr->b≠c.env.locals:=fun b o e hn q=>by subst q;rw[O.fr] at e;injection e with e;subst e;exact hn rfl
 refine⟨fun b o e => ?_,O.bp,O.fr,fun mv hm j y u hy hu hk => ?_,fun j y hy hk => ?_,O.held,O.len,O.inj,O.eo,O.d6⟩
 ·by_cases hb:b=c.env.locals
  ·subst hb;rw[O.fr] at e;injection e with e;subst e
   obtain⟨mv,h1⟩:=O.at_ _ _ O.fr;exact⟨_,hN _ h1⟩
  ·exact(O.at_ b o e).dQ (Le.refl _) (.refl _) _ (fun d f q=>q) (kk b hb) fun d hd=>kk d (ne _ _ hd (by simp))
 ·obtain⟨mv0,h1⟩:=O.at_ _ _ O.fr
  obtain rfl:=fq (hN _ h1) hm;by_cases hj:j=i
  ·subst hj
   injection hi.symm.trans hy with hy;subst hy
   rw[Qz] at hu;simp only[if_true] at hu;split at hu
   ·cases hu;exact⟨v,by simp,r⟩
   ·injection hu
  ·rw[OP (PF hj)] at hu
   obtain⟨w,h2,h3⟩:=O.loc _ h1 j y u hy hu hk;have:y≠x:=by
    rintro rfl;exact hj (jq W.once hy hi)
   exact⟨w,by simp[this,h2],h3⟩
 ·obtain⟨a,h1,h2,h3⟩:=O.cell j y hy hk
  refine⟨a,h1,h2,fun u hu => ?_⟩
  have hj:j≠i:=by rintro rfl;injection hi.symm.trans hy with hy;subst hy;exact hk hx
  rw[OP (PF hj)] at hu;obtain⟨w,h4,h5⟩:=h3 u hu;exact⟨w,dO (kk _ (ne _ _ h2 (by simp))) h4,h5⟩
theorem OK.EW (O:OK c σ τ θ ρ Γ h) (W:c.WF) {i:Nat} {x:Str} {d:V} {v:Value} {a:Addr} (hi:c.ns[i]?=some x) (hx:c.env.kindOf x=some .cell) (ha:c.env.cells.lookup x=some a) (r:VV τ θ d v)
  (hs:Q1 a h h') (hN:h'.IsCell a (some v)):OK c σ τ θ (ρ.set i (some d)) Γ h':=by
 obtain⟨a',e',hc,_⟩:=O.cell i x hi (by rw[hx];simp)
 obtain rfl:a'=a:=j' (e'.symm.trans ha);have ne : ∀b o,σ b=some o->o≠ .cl->b≠a':=fun b o e hn q=>by subst q;injection hc.symm.trans e with e;subst e;exact hn rfl
 refine⟨fun b o e => ?_,O.bp,O.fr,fun mv hm j y u hy hu hk => ?_,fun j y hy hk => ?_,O.held,O.len,O.inj,O.eo,O.d6⟩
 ·by_cases hb:b=a'
  ·subst hb;injection hc.symm.trans e with e;subst e
   exact⟨_,hN⟩
  ·exact(O.at_ b o e).dQ (Le.refl _) (.refl _) _ (fun d f q=>q) (hs.2 b hb) fun d hd=>hs.2 d (ne _ _ hd (by simp))
 ·have hj:j≠i:=by rintro rfl;injection hi.symm.trans hy with hy;subst hy;rw[hx] at hk;cases hk
  rw[OP (PF hj)] at hu;exact O.loc mv (pM (hs.2 _ (ne _ _ O.fr (by simp))) hm) j y u hy hu hk
 ·by_cases hj:j=i
  ·subst hj
   injection hi.symm.trans hy with hy;subst hy
   refine⟨a',ha,hc,fun u hu => ?_⟩
   rw[Qz] at hu;simp only[if_true] at hu;split at hu
   ·cases hu;exact⟨v,hN,r⟩
   ·injection hu
  ·obtain⟨b,h1,h2,h3⟩:=O.cell j y hy hk
   refine⟨b,h1,h2,fun u hu => ?_⟩
   rw[OP (PF hj)] at hu;obtain⟨w,h4,h5⟩:=h3 u hu;have:b≠a':=by
    rintro rfl;have:=W.dW _ _ _ h1 ha;subst this;exact hj (jq W.once hy hi)
   exact⟨w,dO (hs.2 _ this) h4,h5⟩
end
end Mine
end
section
set_option genSizeOf false
set_option genSizeOfSpec false
set_option genInjectivity false
namespace Mine
inductive Bi where
 |len | ord | chr | range | isinst | any | str
inductive Me where
 |find | startsw | endsw | lower | join | append | get | pop
mutual
inductive Ex where
 |none (p:Nat)
 |bool (b:Bool) (p:Nat)
 |int (i:Int) (p:Nat)
 |str (x:Tx) (p:Nat)
 |var (i:Nat) (p:Nat)
 |jL (i:Nat) (p:Nat)
 |glob (g:Nat) (p:Nat)
 |bin (op:Pq) (a b:Ex) (p:Nat)
 |cmp (op:Rp) (a b:Ex) (p:Nat)
 |ny (es:bf) (p:Nat)
 |tY (es:bf) (p:Nat)
 |neg (a:Ex) (p:Nat)
 |oV (t:Te) (a b:Ex) (p:Nat)
 |tup (es:bf) (p:Nat)
 |lst (es:bf) (p:Nat)
 |nz (p:Nat)
 |sE (k:Nat) (p:Nat)
 |rK (x:Tx) (px:Nat) (e:Ex) (p:Nat)
 |sub (a i:Ex) (p:Nat)
 |pk (a lo:Ex) (ps p:Nat)
 |pQ (a hi:Ex) (ps p:Nat)
 |ni (a lo hi:Ex) (ps p:Nat)
 |attr (a:Ex) (n:Nat) (p:Nat)
 |call (k:Nat) (f:Ex) (m:Bool) (es:bf) (p:Nat)
 |gH (b:Bi) (f:Ex) (es:bf) (p:Nat)
 |new (C:Nat) (f:Ex) (es:bf) (p:Nat)
 |jz (a:Ex) (m:Me) (es:bf) (pa p:Nat)
 |mE (a:Ex) (f:Nat) (es:bf) (pa p:Nat)
 |init (a:Ex) (C:Nat) (es:bf) (pa p:Nat)
 |comp (elt tgt iter:Ex) (ifs:bY) (locs:List Str) (aA:List Nat) (gk:List (Str×D)) (sc:QC) (p:Nat)
inductive bf where
 |nil
 |cons (e:Ex) (es:bf)
inductive Te where
 |val (e:Ex)
 |not (t:Te) (p:Nat)
 |and (ts:bY) (p:Nat)
 |or (ts:bY) (p:Nat)
 |chain (a:Ex) (o1:Rp) (b:Ex) (o2:Rp) (c:Ex) (p:Nat)
inductive bY where
 |nil
 |cons (t:Te) (ts:bY)
end
mutual
inductive St where
 |expr (e:Ex) (p:Nat)
 |asg (t e:Ex) (p:Nat)
 |aug (i:Nat) (op:Pq) (e:Ex) (pn p:Nat)
 |jw (a:Ex) (n:Nat) (op:Pq) (e:Ex) (pa p:Nat)
 |ifs (t:Te) (a b:av) (p:Nat)
 |nZ (t:Te) (b:av) (p:Nat)
 |kz (t it:Ex) (b:av) (p:Nat)
 |ret (e:Ex) (p:Nat)
 |nN (p:Nat)
 |nF (e:Ex) (p:Nat)
 |gQ (b:av) (C:Ex) (i:Nat) (h:av) (ph p:Nat)
 |iJ (b f:av) (p:Nat)
 |brk (p:Nat)
inductive av where
 |nil
 |cons (s:St) (ss:av)
end
structure Tab where
 gn:List (Str×D)
 fn:List Str
 fa:List Addr
 ca:List (Addr×Bool×Nat)
noncomputable def Me.name:Me->Str
 | .find=>"find" | .startsw=>"startswith" | .endsw=>"endswith" | .lower=>"lower" | .join=>"join" | .append=>"append" | .get=>"get" | .pop=>"pop"
noncomputable def inner(ns:List Str)(locs:List Str)(aA:List Nat):List Str:=locs++aA.map fun i=>ns.getD i ""
noncomputable def aK(n:Nat):W7:=⟨n/268435456,n/524288 % 512,n/512 % 1024,n % 512⟩
noncomputable def Tab.sub(T:Tab)(gk:List (Str×D)):Tab:={T with gn:=gk}
mutual
noncomputable def Ex.back:Ex->Tab->List Str->PySem.Expr
 | .none p,T,_ => .Constant .none 0 (aK p)
 | .bool b p,T,_ => .Constant (.bool b) 0 (aK p)
 | .int i p,T,_ => .Constant (.int i) 0 (aK p)
 | .str x p,T,_ => .Constant (.str (aP x)) 0 (aK p)
 | .var i p,T,ns => .Name (ns.getD i "") (aK p)
 | .jL i p,T,ns => .Name (ns.getD i "") (aK p)
 | .glob g p,T,_ => .Name (T.gn.getD g ("",.none)).1 (aK p)
 | .bin op a b p,T,ns => .BinOp (a.back T ns) op (b.back T ns) (aK p)
 | .cmp op a b p,T,ns => .Compare (a.back T ns) [op] [b.back T ns] (aK p)
 | .ny es p,T,ns => .BoolOp .And (es.back T ns) (aK p)
 | .tY es p,T,ns => .BoolOp .Or (es.back T ns) (aK p)
 | .neg a p,T,ns => .UnaryOp .USub (a.back T ns) (aK p)
 | .oV t a b p,T,ns => .IfExp (t.back T ns) (a.back T ns) (b.back T ns) (aK p)
 | .tup es p,T,ns => .Tuple (es.back T ns) 0 (aK p)
 | .lst es p,T,ns => .List (es.back T ns) (aK p)
 | .nz p,T,_ => .List [] (aK p)
 | .sE _ p,T,_ => .Dict [] [] (aK p)
 | .rK x px e p,T,ns => .Dict [some (.Constant (.str (aP x)) 0 (aK px))] [e.back T ns] (aK p)
 | .sub a i p,T,ns => .Subscript (a.back T ns) (i.back T ns) (aK p)
 | .pk a lo ps p,T,ns => .Subscript (a.back T ns) (.Slice (some (lo.back T ns)) none none (aK ps)) (aK p)
 | .pQ a hi ps p,T,ns => .Subscript (a.back T ns) (.Slice none (some (hi.back T ns)) none (aK ps)) (aK p)
 | .ni a lo hi ps p,T,ns => .Subscript (a.back T ns) (.Slice (some (lo.back T ns)) (some (hi.back T ns)) none (aK ps)) (aK p)
 | .attr a n p,T,ns => .Attribute (a.back T ns) (AN.getD n "") (aK p)
 | .call _ f _ es p,T,ns => .Call (f.back T ns) (es.back T ns) [] (aK p)
 | .gH _ f es p,T,ns => .Call (f.back T ns) (es.back T ns) [] (aK p)
 | .new _ f es p,T,ns => .Call (f.back T ns) (es.back T ns) [] (aK p)
 | .jz a m es pa p,T,ns => .Call (.Attribute (a.back T ns) m.name (aK pa)) (es.back T ns) [] (aK p)
 | .mE a f es pa p,T,ns => .Call (.Attribute (a.back T ns) (T.fn.getD f "") (aK pa)) (es.back T ns) [] (aK p)
 | .init a _ es pa p,T,ns => .Call (.Attribute (a.back T ns) "__init__" (aK pa)) (es.back T ns) [] (aK p)
 | .comp elt tgt it ifs locs aA gk sc p,T,ns => .ListComp (elt.back (T.sub gk) (inner ns locs aA)) [⟨tgt.back (T.sub gk) (inner ns locs aA),it.back T ns,ifs.back (T.sub gk) (inner ns locs aA),0⟩] sc (aK p)
noncomputable def bf.back:bf->Tab->List Str->List PySem.Expr
 | .nil,T,_=>[]
 | .cons e es,T,ns=>e.back T ns::es.back T ns
noncomputable def Te.back:Te->Tab->List Str->PySem.Expr
 | .val e,T,ns=>e.back T ns
 | .not t p,T,ns => .UnaryOp .Not (t.back T ns) (aK p)
 | .and ts p,T,ns => .BoolOp .And (ts.back T ns) (aK p)
 | .or ts p,T,ns => .BoolOp .Or (ts.back T ns) (aK p)
 | .chain a o1 b o2 c p,T,ns => .Compare (a.back T ns) [o1,o2] [b.back T ns,c.back T ns] (aK p)
noncomputable def bY.back:bY->Tab->List Str->List PySem.Expr
 | .nil,T,_=>[]
 | .cons t ts,T,ns=>t.back T ns::ts.back T ns
end
mutual
noncomputable def St.back(T:Tab)(ns:List Str):St->Stmt
 | .expr e p => .Expr (e.back T ns) (aK p)
 | .asg t e p => .Assign [t.back T ns] (e.back T ns) (aK p)
 | .aug i op e pn p => .AugAssign (.Name (ns.getD i "") (aK pn)) op (e.back T ns) (aK p)
 | .jw a n op e pa p => .AugAssign (.Attribute (a.back T ns) (AN.getD n "") (aK pa)) op (e.back T ns) (aK p)
 | .ifs t a b p => .If (t.back T ns) (a.back T ns) (b.back T ns) (aK p)
 | .nZ t b p => .While (t.back T ns) (b.back T ns) [] (aK p)
 | .kz t it b p => .For (t.back T ns) (it.back T ns) (b.back T ns) [] (aK p)
 | .ret e p => .Return (some (e.back T ns)) (aK p)
 | .nN p => .Return none (aK p)
 | .nF e p => .Raise (some (e.back T ns)) none (aK p)
 | .gQ b C i h ph p => .Try (b.back T ns) [.ExceptHandler (some (C.back T ns)) (some (ns.getD i "")) (h.back T ns) (aK ph)] [] [] (aK p)
 | .iJ b f p => .Try (b.back T ns) [] [] (f.back T ns) (aK p)
 | .brk p => .Break (aK p)
noncomputable def av.back(T:Tab)(ns:List Str):av->List Stmt
 | .nil=>[]
 | .cons s ss=>s.back T ns::ss.back T ns
end
inductive Res (α:Type) where
 |ok (a:α) (ρ:aq) (Γ:ag)
 |ex (n:Nat) (ρ:aq) (Γ:ag)
 |no
noncomputable def Res.bind{α β:Type}(r:Res α)(k:α->aq->ag->Res β):Res β:=match r with
 | .ok a ρ Γ=>k a ρ Γ
 | .ex n ρ Γ => .ex n ρ Γ
 | .no => .no
inductive RG where
 |ok (v:V) (Γ:ag)
 |ex (n:Nat) (Γ:ag)
 |no
noncomputable def ao:Tx->Tx->Bool
 | [],[]=>true
 |a::x,b::y=>cond (I' a b) (ao x y) false
 |_,_=>false
theorem oP:ao [] []=true:=rfl
theorem og{b:Nat}{y:Tx}:ao [] (b::y)=false:=rfl
theorem oq{a:Nat}{x:Tx}:ao (a::x) []=false:=rfl
theorem lE{a b:Nat}{x y:Tx}:ao (a::x) (b::y)=cond (I' a b) (ao x y) false:=rfl
noncomputable def kv:Tx->Tx->Bool
 | [],_=>true
 |_::_,[]=>false
 |a::x,b::y=>cond (I' a b) (kv x y) (OB a b)
theorem vS{x:Tx}:kv [] x=true:=rfl
theorem wa{a:Nat}{x:Tx}:kv (a::x) []=false:=rfl
theorem rt{a b:Nat}{x y:Tx}:kv (a::x) (b::y)=cond (I' a b) (kv x y) (OB a b):=rfl
noncomputable def gw(a b:Int):Bool:=match a,b with
 | .ofNat a,.ofNat b=>I' a b
 | .negSucc a,.negSucc b=>I' a b
 |_,_=>false
noncomputable def mV(a b:Int):Bool:=match a,b with
 | .ofNat a,.ofNat b=>OB a b
 | .negSucc a,.negSucc b=>OB b a
 | .negSucc _,.ofNat _=>true
 | .ofNat _,.negSucc _=>false
theorem ai{α β:Type}{o:Option α}{f:α->Option β}{b:β}(h:o.bind f=some b): ∃a,o=some a/\f a=some b:=Option.bind_eq_some_iff.mp h
theorem aJ{α β:Type}{o:Option α}{f:α->β}{b:β}(h:o.map f=some b): ∃a,o=some a/\f a=b:=Option.map_eq_some_iff.mp h
theorem bF{α:Type}{b:Bool}{x y:α}(h:cond b (some x) none=some y):b=true/\x=y:=by
 cases b with
 |false=>injection h
 |true=>exact⟨rfl,j' h⟩
noncomputable def V.d?:V->Option D
 | .d x=>some x
 |_=>none
noncomputable def V.l?:V->Option Nat
 | .loc n=>some n
 |_=>none
noncomputable def D.ck:D->Option Tx
 | .str x=>some x
 |_=>Oi
noncomputable def D.int?:D->Option Int
 | .int x=>some x
 |_=>Oi
noncomputable def D.gm:D->Option (List D)
 | .lst x=>some x
 |_=>Oi
noncomputable def D.ju:D->Option (List D)
 | .tup x=>some x
 |_=>Oi
noncomputable def D.val?:D->Option Value
 | .val x=>some x
 |_=>Oi
noncomputable def nat?:Int->Option Nat
 | .ofNat n=>some n
 |_=>none
noncomputable def one:{α:Type}->List α->Option α
 |_,v::r=>cond r.isEmpty (some v) none
 |_,[]=>none
noncomputable def two:{α:Type}->List α->Option (α×α)
 |_,v::r=>(one r).map fun w=>(v,w)
 |_,[]=>none
noncomputable def three:{α:Type}->List α->Option (α×α×α)
 |_,v::r=>(two r).map fun w=>(v,w)
 |_,[]=>none
theorem aE{α:Type}{a:α}{P:Prop}(h:(Oi:Option α)=some a):P:=by injection h
theorem V.cf{v:V}{x}(h:v.d?=some x):v = .d x:=by
 cases v with
 |d y=>exact congrArg V.d (j' h)
 |_=>exact aE h
theorem V.jm{v:V}{x}(h:v.l?=some x):v = .loc x:=by
 cases v with
 |loc y=>exact congrArg V.loc (j' h)
 |_=>exact aE h
theorem D.cC{v:D}{x}(h:v.ck=some x):v = .str x:=by
 cases v with
 |str y=>exact congrArg D.str (j' h)
 |_=>exact aE h
theorem D.cP{v:D}{x}(h:v.int?=some x):v = .int x:=by
 cases v with
 |int y=>exact congrArg D.int (j' h)
 |_=>exact aE h
theorem D.eQ{v:D}{x}(h:v.gm=some x):v = .lst x:=by
 cases v with
 |lst y=>exact congrArg D.lst (j' h)
 |_=>exact aE h
theorem D.gR{v:D}{x}(h:v.ju=some x):v = .tup x:=by
 cases v with
 |tup y=>exact congrArg D.tup (j' h)
 |_=>exact aE h
theorem D.mF{v:D}{x}(h:v.val?=some x):v = .val x:=by
 cases v with
 |val y=>exact congrArg D.val (j' h)
 |_=>exact aE h
theorem gr{i:Int}{n}(h:nat? i=some n):i = .ofNat n:=by
 cases i with
 |ofNat y=>exact congrArg OO (j' h)
 |_=>exact aE h
theorem ea{α:Type}{l:List α}{v}(h:one l=some v):l=[v]:=by
 cases l with
 |nil=>exact aE h
 |cons x r=>
  obtain⟨h1,h2⟩:=bF h;rw[h2,QF.mp h1]
theorem gB{α:Type}{l:List α}{v}(h:two l=some v):l=[v.1,v.2]:=by
 cases l with
 |nil=>exact aE h
 |cons x r=>
  obtain⟨w,h1,h2⟩:=aJ h;rw[ea h1,<-h2]
theorem zv{α:Type}{l:List α}{v}(h:three l=some v):l=[v.1,v.2.1,v.2.2]:=by
 cases l with
 |nil=>exact aE h
 |cons x r=>
  obtain⟨w,h1,h2⟩:=aJ h;rw[gB h1,<-h2]
noncomputable def V.of(f:D->Option α)(v:V):Option α:=v.d?.bind f
theorem V.of_eq{α:Type}{f:D->Option α}{v:V}{a:α}(h:v.of f=some a): ∃d,v = .d d/\f d=some a:=by
 obtain⟨d,h1,h2⟩:=ai h;exact⟨d,V.cf h1,h2⟩
noncomputable def Mu.gm:Mu->Option (List D)
 | .list l=>some l
 |_=>none
theorem Mu.eQ{v:Mu}{x}(h:v.gm=some x):v = .list x:=by
 cases v with
 |list y=>exact congrArg Mu.list (j' h)
 |_=>exact aE h
noncomputable def Mu.Jn:Mu->Option (List (Tx×D))
 | .sd l=>some l
 |_=>none
theorem Mu.EO{v:Mu}{x}(h:v.Jn=some x):v = .sd x:=by
 cases v with
 |sd y=>exact congrArg Mu.sd (j' h)
 |_=>exact aE h
noncomputable def Mu.Jy:Mu->Option (List (Int×D))
 | .nd l=>some l
 |_=>none
theorem Mu.D2{v:Mu}{x}(h:v.Jy=some x):v = .nd x:=by
 cases v with
 |nd y=>exact congrArg Mu.nd (j' h)
 |_=>exact aE h
noncomputable def eg(f:D->D->Option Bool):List D->List D->Option Bool
 | [],y=>cond y.isEmpty (some true) none
 |a::x,y=>match y with
  | []=>none
  |b::y=>(f a b).bind fun p=>(eg f x y).map fun q=>p&&q
noncomputable def wF(x y:D):Option Bool:=match x with
 | .none=>match y with
  | .none=>some true
  | .str _=>some false
  | .bool _=>some false
  |_=>none
 | .bool a=>match y with
  | .bool b=>some (a==b)
  | .none=>some false
  |_=>none
 | .int a=>match y with
  | .int b=>some (gw a b)
  | .str _=>some false
  |_=>none
 | .str a=>match y with
  | .str b=>some (ao a b)
  | .none=>some false
  | .int _=>some false
  |_=>none
 |_=>none
noncomputable def cg:Nat->D->D->Option Bool
 |0,x,y=>wF x y
 |n+1,x,y=>match x with
  | .tup a=>y.ju.bind fun b=>cond (I' a.length b.length) (eg (cg n) a b) none
  | .lst a=>y.gm.bind fun b=>cond (I' a.length b.length) (eg (cg n) a b) (some false)
  |_=>wF x y
noncomputable def strsOf:List D->Option (List Tx)
 | []=>some []
 | .str x::r=>(strsOf r).map (x :: ·)
 |_::_=>none
noncomputable def isAt(k:Tx):List Tx->Bool
 | []=>false
 |x::r=>cond (ao k x) true (isAt k r)
theorem sQ{k:Tx}:isAt k []=false:=rfl
theorem sL{k x:Tx}{r:List Tx}:isAt k (x::r)=cond (ao k x) true (isAt k r):=rfl
noncomputable def iA(k:D):List D->Option Bool
 | []=>some false
 |x::r=>(cg 9 x k).bind fun a=>(iA k r).map fun b=>a||b
noncomputable def bw{α:Type}(k:Tx):List (Tx×α)->Option α
 | []=>none
 |x::r=>cond (ao k x.1) (some x.2) (bw k r)
theorem eJ{α:Type}{k:Tx}:bw k ([]:List (Tx×α))=none:=rfl
theorem eK{α:Type}{k:Tx}{x:Tx×α}{r:List (Tx×α)}:bw k (x::r)=cond (ao k x.1) (some x.2) (bw k r):=rfl
noncomputable def aQ{α:Type}(k:Tx)(v:α):List (Tx×α)->List (Tx×α)
 | []=>[(k,v)]
 |x::r=>cond (ao k x.1) ((x.1,v)::r) (x::aQ k v r)
theorem fL{α:Type}{k:Tx}{v:α}:aQ k v []=[(k,v)]:=rfl
theorem fN{α:Type}{k:Tx}{v:α}{x:Tx×α}{r:List (Tx×α)}:aQ k v (x::r)=cond (ao k x.1) ((x.1,v)::r) (x::aQ k v r):=rfl
noncomputable def dh{α:Type}(k:Tx):List (Tx×α)->List (Tx×α)
 | []=>[]
 |x::r=>cond (ao k x.1) r (x::dh k r)
theorem jc{α:Type}{k:Tx}:dh k ([]:List (Tx×α))=[]:=rfl
theorem gW{α:Type}{k:Tx}{x:Tx×α}{r:List (Tx×α)}:dh k (x::r)=cond (ao k x.1) r (x::dh k r):=rfl
noncomputable def dK{α:Type}(k:Int):List (Int×α)->Option α
 | []=>none
 |x::r=>cond (gw k x.1) (some x.2) (dK k r)
theorem BO{α:Type}{k:Int}:dK k ([]:List (Int×α))=none:=rfl
theorem CG{α:Type}{k:Int}{x:Int×α}{r:List (Int×α)}:dK k (x::r)=cond (gw k x.1) (some x.2) (dK k r):=rfl
noncomputable def iX{α:Type}(k:Int)(v:α):List (Int×α)->List (Int×α)
 | []=>[(k,v)]
 |x::r=>cond (gw k x.1) ((x.1,v)::r) (x::iX k v r)
theorem DN{α:Type}{k:Int}{v:α}:iX k v []=[(k,v)]:=rfl
theorem Dm{α:Type}{k:Int}{v:α}{x:Int×α}{r:List (Int×α)}:iX k v (x::r)=cond (gw k x.1) ((x.1,v)::r) (x::iX k v r):=rfl
noncomputable def putN{α:Type}(k:Nat)(v:α):List (Nat×α)->List (Nat×α)
 | []=>[(k,v)]
 |x::r=>cond (I' k x.1) ((x.1,v)::r) (x::putN k v r)
noncomputable def bq(Γ:ag)(n:Nat):Option Mu:=(Γ[n]?).join
noncomputable def vt:Nat:=16777216
noncomputable def ay(n:Nat):Bool:=OB n vt
noncomputable def place(i:Int)(n:Nat):Option Nat:=match i with
 | .ofNat k=>cond (OI k n&&ay k) (some k) none
 | .negSucc k=>cond (OI k n&&ay k) (some (n-(k+1))) none
noncomputable def iI(i:Int)(n:Nat):Nat:=match i with
 | .ofNat k=>min k n
 | .negSucc k=>n-(k+1)
noncomputable def cut{α:Type}(l:List α)(lo hi:Nat):List α:=(l.drop lo).take (hi-lo)
noncomputable def slice{α:Type}(l:List α)(lo hi:Option Int):List α:=cut l (match lo with | none=>0 | some i=>iI i l.length) (match hi with | none=>l.length | some i=>iI i l.length)
noncomputable def pos?(i:Int):Option Nat:=match i with
 | .ofNat n=>match n with
  |0=>none
  |k+1=>some k
 |_=>none
noncomputable def Fe(op:Pq)(a b:Int):Option D:=match op with
 | .Add=>some (.int (a+b))
 | .Sub=>some (.int (a-b))
 | .Mult=>(nat? b).bind fun k=>cond (OI k 4294967296) (some (.int (a * .ofNat k))) none
 | .FloorDiv=>(pos? b).bind fun k=>cond (OI k 1073741823) (some (.int (Om a (.ofNat (k+1))))) none
 | .Mod=>(pos? b).bind fun k=>cond (OI k 1073741823) (some (.int (OF a (.ofNat (k+1))))) none
 |_=>none
noncomputable def isAdd:Pq->Bool
 | .Add=>true
 |_=>false
noncomputable def gZ(op:Pq)(x y:D):Option D:=match x with
 | .int a=>y.int?.bind fun b=>Fe op a b
 | .str a=>y.ck.bind fun b=>cond (isAdd op) (cond (ay (a.length+b.length)) (some (.str (a++b))) none) none
 | .lst a=>y.gm.bind fun b=>cond (isAdd op) (cond (ay (a.length+b.length)) (some (.lst (a++b))) none) none
 |_=>none
noncomputable def Ek(op:Pq)(a b:Int):Option D:=match op with
 | .Add=>some (.int (a+b))
 | .Sub=>some (.int (a-b))
 |_=>none
noncomputable def pe(op:Pq)(x y:D):Option D:=match x with
 | .int a=>y.int?.bind fun b=>Ek op a b
 | .str a=>y.ck.bind fun b=>cond (isAdd op) (cond (ay (a.length+b.length)) (some (.str (a++b))) none) none
 |_=>none
noncomputable def Aq:D->Option Bool
 | .none=>some true
 | .val _=>Oi
 |_=>some false
noncomputable def isNone:V->Option Bool
 | .d x=>Aq x
 | .loc _=>some false
noncomputable def Ag(a b:List D):Option Bool:=cond (I' a.length b.length) (eg (cg 9) a b) (some false)
noncomputable def A6(Γ:ag)(x y:V):Option Bool:=match x with
 | .d a=>y.d?.bind fun b=>cg 9 a b
 | .loc m=>(bq Γ m).bind fun M=>M.gm.bind fun a=>match y with
  | .d b=>b.gm.bind fun b=>Ag a b
  | .loc n=>(bq Γ n).bind fun N=>N.gm.bind fun b=>cond (I' m n) none (Ag a b)
noncomputable def inD(k x:D):Option Bool:=match x with
 | .tup l=>iA k l
 | .lst l=>iA k l
 | .bH l=>k.ck.map fun k=>(bw k l).isSome
 | .gs l=>k.int?.map fun k=>(dK k l).isSome
 |_=>none
noncomputable def Jg(k:D)(m:Mu):Option Bool:=match m with
 | .sd l=>k.ck.map fun k=>(bw k l).isSome
 | .vd l=>k.ck.map fun k=>(bw k l).isSome
 | .nd l=>k.int?.map fun k=>(dK k l).isSome
 |_=>none
noncomputable def xG(Γ:ag)(x y:V):Option Bool:=x.d?.bind fun k=>match y with
 | .d y=>inD k y
 | .loc n=>(bq Γ n).bind fun m=>Jg k m
noncomputable def Gu(op:Rp)(a b:Int):Option Bool:=match op with
 | .Lt=>some (!mV b a)
 | .LtE=>some (mV a b)
 | .Gt=>some (!mV a b)
 | .GtE=>some (mV b a)
 |_=>none
noncomputable def Ei(op:Rp)(a b:Tx):Option Bool:=match op with
 | .LtE=>some (kv a b)
 |_=>none
noncomputable def zd(op:Rp)(x y:D):Option Bool:=match x with
 | .int a=>y.int?.bind fun b=>Gu op a b
 | .str a=>y.ck.bind fun b=>Ei op a b
 |_=>none
noncomputable def D.isNone:D->Bool
 | .none=>true
 |_=>false
theorem D.qG{d:D}(h:d.isNone=true):d = .none:=by
 cases d with
 |none=>rfl
 |_=>exact H' h
noncomputable def qR:V->Bool
 | .d y=>y.isNone
 | .loc _=>false
theorem m5{v:V}(h:qR v=true):v = .d .none:=by
 cases v with
 |d y=>exact congrArg V.d (D.qG h)
 |loc=>exact H' h
noncomputable def iG(Γ:ag)(op:Rp)(x y:V):Option Bool:=match op with
 | .Eq=>A6 Γ x y
 | .NotEq=>(A6 Γ x y).map (!·)
 | .In=>xG Γ x y
 | .NotIn=>(xG Γ x y).map (!·)
 | .Is=>cond (qR y) (isNone x) none
 | .IsNot=>cond (qR y) ((isNone x).map (!·)) none
 |op=>x.d?.bind fun x=>y.d?.bind fun y=>zd op x y
noncomputable def D.truth:D->Option Bool
 | .none=>some false
 | .bool b=>some b
 |_=>Oi
noncomputable def d9(Γ:ag):V->Option Bool
 | .d x=>x.truth
 | .loc n=>(bq Γ n).bind fun m=>m.Jy.bind fun l=>cond (ay l.length) (some (!l.isEmpty)) none
noncomputable def mn(l:List D)(y:D):Option D:=y.int?.bind fun i=>(place i l.length).bind fun k=>l[k]?
noncomputable def vi(x y:D):Option D:=match x with
 | .str l=>y.int?.bind fun i=>(place i l.length).bind fun k=>(l[k]?).map fun c => .str [c]
 | .tup l=>mn l y
 | .lst l=>mn l y
 | .bH l=>y.ck.bind fun k=>bw k l
 |_=>none
noncomputable def A4(m:Mu)(y:D):Option V:=match m with
 | .list l=>(mn l y).map .d
 | .sd l=>y.ck.bind fun k=>(bw k l).map .d
 | .vd l=>y.ck.bind fun k=>bw k l
 |_=>none
noncomputable def cF(Γ:ag)(x y:V):Option V:=y.d?.bind fun y=>match x with
 | .d x=>(vi x y).map .d
 | .loc n=>(bq Γ n).bind fun m=>A4 m y
noncomputable def uA(lo hi:Option Int):Bool:=lo.isNone&&match hi with
 |some i=>match i with
  | .negSucc k=>I' k 0
  |_=>false
 |none=>false
noncomputable def dn(x:D)(lo hi:Option Int):Option D:=match x with
 | .str l=>cond (ay l.length) (some (.str (slice l lo hi))) none
 | .lst l=>cond (ay l.length) (some (.lst (slice l lo hi))) none
 | .tup l=>cond (uA lo hi) (cond (ay l.length && !l.isEmpty) (some (.tup (slice l none (some (.negSucc 0))))) none) none
 |_=>none
noncomputable def dq(x:V)(lo hi:Option Int):Option V:=x.d?.bind fun x=>(dn x lo hi).map .d
noncomputable def D.isVal:D->Bool
 | .val _=>true
 |_=>false
noncomputable def V.isVal:V->Bool
 | .d x=>x.isVal
 |_=>false
noncomputable def kP(v:V):Option V:=cond v.isVal none (some v)
noncomputable def HZ(n:Nat)(m:Mu):Option V:=(match m with
  | .inst _ fs=>dF n fs
  | .exc _ fs _ _=>(dF n fs).map .d
  |_=>none).bind kP
noncomputable def kB(Γ:ag)(n:Nat)(x:V):Option V:=x.l?.bind fun a=>(bq Γ a).bind (HZ n)
noncomputable def setM(n:Nat)(v:V):Mu->Option Mu
 | .inst C fs=>some (.inst C (putN n v fs))
 | .exc C fs x t=>v.d?.map fun d => .exc C (putN n d fs) x t
 |_=>none
noncomputable def q0(Γ:ag)(n:Nat)(v:V)(x:V):Option ag:=x.l?.bind fun a=>(bq Γ a).bind fun m=>(setM n v m).map fun m=>Γ.set a (some m)
noncomputable def zJ(k v:V):Mu->Option Mu
 | .sd l=>(k.of D.ck).bind fun k=>v.d?.bind fun d=>cond (ay (l.length+1)) (some (.sd (aQ k d l))) none
 | .vd l=>(k.of D.ck).bind fun k=>cond (ay (l.length+1)) (some (.vd (aQ k v l))) none
 | .nd l=>(k.of D.int?).bind fun k=>v.d?.bind fun d=>cond (ay (l.length+1)) (some (.nd (iX k d l))) none
 |_=>none
noncomputable def ku(Γ:ag)(k v:V)(x:V):Option ag:=x.l?.bind fun a=>(bq Γ a).bind fun m=>(zJ k v m).map fun m=>Γ.set a (some m)
noncomputable def Hf{α:Type}(l:List (Tx×α)):List V:=l.map fun p => .d (.str p.1)
noncomputable def cQ(a c:Int):Nat->List V
 |0=>[]
 |n+1 => .d (.int a)::cQ (a+c) c n
noncomputable def Ej:D->Option (List V)
 | .tup l=>some (l.map .d)
 | .lst l=>some (l.map .d)
 | .str l=>some (l.map fun c => .d (.str [c]))
 | .bH l=>some (Hf l)
 | .gs l=>some (l.map fun p => .d (.int p.1))
 | .eF a b c=>(nat? a).bind fun a=>(nat? b).bind fun b=>(pos? c).bind fun k=>cond (ay a&&ay b&&ay k) (some (cQ (.ofNat a) (.ofNat (k+1)) ((b-a+k)/(k+1)))) none
 |_=>none
noncomputable def dm(x:V):Option (List V):=x.d?.bind Ej
noncomputable def D0:Mu->Option D
 | .list l=>some (.lst l)
 | .sd l=>some (.bH l)
 | .nd l=>some (.gs l)
 |_=>none
noncomputable def jL(Γ:ag):V->Option (D×ag)
 | .d x=>some (x,Γ)
 | .loc n=>(bq Γ n).bind fun m=>(D0 m).map fun d=>(d,Γ.set n none)
noncomputable def low(c:Nat):Nat:=cond (OB 65 c&&OB c 90) (c+32) c
noncomputable def eW:Tx->Tx->Bool
 | [],_=>true
 |_::_,[]=>false
 |a::x,b::y=>cond (I' a b) (eW x y) false
theorem mC{x:Tx}:eW [] x=true:=rfl
theorem mq{a:Nat}{x:Tx}:eW (a::x) []=false:=rfl
theorem mG{a b:Nat}{x y:Tx}:eW (a::x) (b::y)=cond (I' a b) (eW x y) false:=rfl
noncomputable def dM(x:Tx):Tx->Nat->Option Nat
 | [],i=>cond (TU x) (some i) none
 |c::r,i=>cond (eW x (c::r)) (some i) (dM x r (i+1))
theorem pD{x:Tx}{i:Nat}:dM x [] i=cond (TU x) (some i) none:=rfl
theorem pK{x:Tx}{c i:Nat}{r:Tx}:dM x (c::r) i=cond (eW x (c::r)) (some i) (dM x r (i+1)):=rfl
noncomputable def bU(s:Tx):List Tx->Tx
 | []=>[]
 | [x]=>x
 |x::r=>x++s++bU s r
theorem eI{s:Tx}:bU s []=[]:=rfl
theorem eO{s x:Tx}:bU s [x]=x:=rfl
theorem eN{s x y:Tx}{r:List Tx}:bU s (x::y::r)=x++s++bU s (y::r):=rfl
noncomputable def m7(n:Nat):Tx:=(Nat.toDigits 10 n).map XW
inductive Md where
 |free
 |hold (n:Nat)
 |eS
noncomputable def Md.b:Md->Bool
 | .free=>true
 |_=>false
noncomputable abbrev aL:=Bool->Nat->List V->ag->RG
noncomputable def Res.aT{α β:Type}(o:Option α)(k:α->Res β):Res β:=match o with
 |some a=>k a
 |none => .no
noncomputable def RG.aT{α:Type}(o:Option α)(k:α->RG):RG:=match o with
 |some a=>k a
 |none => .no
noncomputable def Mu.za:Mu->Option Mu
 | .list l=>some (.list l)
 | .sd l=>some (.sd l)
 | .exc C fs x t=>some (.exc C fs x t)
 |_=>none
structure Exc where
 C:Addr
 fs:List (Nat×D)
 x:Bool
 t:Bool
noncomputable def Exc.mu(e:Exc):Mu := .exc e.C e.fs e.x e.t
noncomputable def Mu.FK:Mu->Option Exc
 | .exc C fs x t=>some ⟨C,fs,x,t⟩
 |_=>none
theorem Mu.BP{m:Mu}{e}(h:m.FK=some e):m=e.mu:=by
 cases m with
 |exc C fs x t=>exact congrArg Exc.mu (j' h)
 |_=>exact aE h
theorem Mu.Kv{m:Mu}{e}(h:m.za=some e):m=e:=by
 cases m with
 |inst=>exact aE h
 |vd=>exact aE h
 |nd=>exact aE h
 |_=>exact j' h
noncomputable def i8(Γ:ag)(n:Nat):Option Exc:=(bq Γ n).bind Mu.FK
theorem dS{Γ:ag}{n:Nat}{e}(h:i8 Γ n=some e):bq Γ n=some e.mu:=by
 obtain⟨m,h1,h2⟩:=ai h;rw[h1,Mu.BP h2]
noncomputable def eV(Γ:ag):RG->RG
 | .ok v Γ'=>match v with
  | .d x => .ok (.d x) Γ
  | .loc n => .aT ((bq Γ' n).bind Mu.za) fun m => .ok (.loc Γ.length) (Γ++[some m])
 | .ex n Γ' => .aT (i8 Γ' n) fun e => .ex Γ.length (Γ++[some e.mu])
 | .no => .no
noncomputable def iB:List V->Bool
 | []=>true
 | .d _::r=>iB r
 |_::_=>false
noncomputable def iW:List V->Option (List D)
 | []=>some []
 | .d x::r=>(iW r).map (x :: ·)
 |_::_=>none
noncomputable def d4(O:aL)(m:Md)(k:Nat)(pure:Bool)(as:List V)(Γ:ag):RG:=
 cond pure (cond (iB as) (eV Γ (O m.b k as [])) .no) (O m.b k as Γ)
noncomputable def RG.res(ρ:aq):RG->Res V
 | .ok v Γ => .ok v ρ Γ
 | .ex n Γ => .ex n ρ Γ
 | .no => .no
noncomputable def Res.opt{α:Type}(ρ:aq)(Γ:ag):Option α->Res α
 |some a => .ok a ρ Γ
 |none => .no
noncomputable def boolsOf:List D->Option (List Bool)
 | []=>some []
 | .bool b::r=>(boolsOf r).map (b :: ·)
 |_::_=>none
noncomputable def anyB:List Bool->Bool
 | []=>false
 |b::r=>cond b true (anyB r)
noncomputable def E3:D->Option Nat
 | .str l=>some l.length
 | .tup l=>some l.length
 | .lst l=>some l.length
 |_=>none
noncomputable def yG:D->Option Bool
 | .tup _=>some true
 | .lst _=>some false
 |_=>none
noncomputable def E0(Γ:ag):V->Option Nat
 | .d x=>E3 x
 | .loc n=>(bq Γ n).bind fun m=>m.gm.map Qs
noncomputable def isTup:Value->Bool
 | .type n=>decide (n="tuple")
 |_=>false
noncomputable def builtin(b:Bi)(Γ:ag)(as:List V):Option D:=match b with
 | .len=>(one as).bind fun v=>(E0 Γ v).bind fun n=>cond (ay n) (some (.int n)) none
 | .ord=>(one as).bind fun v=>(v.of D.ck).bind fun l=>(one l).map fun(c:Nat)=>D.int (OO c)
 | .chr=>(one as).bind fun v=>(v.of D.int?).bind fun i=>(nat? i).bind fun n=>cond (OB n 1114111) (some (.str [n])) none
 | .range=>match one as with
  |some v=>(v.of D.int?).map fun b => .eF 0 b 1
  |none=>(three as).bind fun w=>(w.1.of D.int?).bind fun a=>(w.2.1.of D.int?).bind fun b=>(w.2.2.of D.int?).bind fun c=>(nat? c).bind fun k=>cond (!I' k 0&&ay k) (some (.eF a b (.ofNat k))) none
 | .isinst=>(two as).bind fun w=>(w.1.of yG).bind fun b=>(w.2.of D.val?).bind fun n=>cond (isTup n) (some (.bool b)) none
 | .any=>(one as).bind fun v=>(v.of D.gm).bind fun l=>(boolsOf l).map fun l => .bool (anyB l)
 | .str=>(one as).bind fun v=>(v.of D.int?).bind fun i=>(nat? i).bind fun n=>cond (ay n) (some (.str (m7 n))) none
noncomputable def l6(Γ:ag)(a:V):Option (Nat×List D):=a.l?.bind fun n=>(bq Γ n).bind fun m=>m.gm.map fun l=>(n,l)
noncomputable def lY(Γ:ag)(a:V):Option (Nat×List (Tx×D)):=a.l?.bind fun n=>(bq Γ n).bind fun m=>m.Jn.map fun l=>(n,l)
theorem rE{Γ:ag}{a:V}{x}(h:l6 Γ a=some x):a = .loc x.1/\bq Γ x.1=some (.list x.2):=by
 obtain⟨n,h1,h⟩:=ai h;obtain⟨m,h2,h⟩:=ai h;obtain⟨l,h3,rfl⟩:=aJ h;exact⟨V.jm h1,by rw[h2,Mu.eQ h3]⟩
theorem nv{Γ:ag}{a:V}{x}(h:lY Γ a=some x):a = .loc x.1/\bq Γ x.1=some (.sd x.2):=by
 obtain⟨n,h1,h⟩:=ai h;obtain⟨m,h2,h⟩:=ai h;obtain⟨l,h3,rfl⟩:=aJ h;exact⟨V.jm h1,by rw[h2,Mu.EO h3]⟩
noncomputable def JX:D->Option (List D)
 | .lst l=>some l
 | .tup l=>some l
 |_=>none
noncomputable def EK(Γ:ag):V->Option (List D)
 | .d x=>JX x
 | .loc n=>(bq Γ n).bind Mu.gm
noncomputable def AB:Option Nat->Int
 |some i => .ofNat i
 |none => .negSucc 0
noncomputable def method(Γ:ag)(m:Me)(a:V)(as:List V):Option (V×ag):=match m with
 | .find=>(a.of D.ck).bind fun l=>match one as with
  |some v=>(v.of D.ck).bind fun x=>(one x).map fun c=>(.d (.int (AB (dM [c] l 0))),Γ)
  |none=>(two as).bind fun w=>(w.1.of D.ck).bind fun x=>(one x).bind fun c=>(w.2.of D.int?).bind fun i=>(nat? i).map fun i=>(.d (.int (AB (dM [c] (l.drop i) i))),Γ)
 | .startsw=>(a.of D.ck).bind fun l=>(one as).bind fun v=>(v.of D.ck).map fun x=>(.d (.bool (eW x l)),Γ)
 | .endsw=>(a.of D.ck).bind fun l=>(one as).bind fun v=>(v.of D.ck).map fun x=>(.d (.bool (eW x.reverse l.reverse)),Γ)
 | .lower=>(a.of D.ck).bind fun l=>cond (as.isEmpty&&(OB l.length 1000000&&l.all fun c=>OI c 128)) (some (.d (.str (l.map low)),Γ)) none
 | .join=>(a.of D.ck).bind fun s=>(one as).bind fun v=>(EK Γ v).bind fun l=>(strsOf l).bind fun xs=>cond (ay ((bU s xs).length+s.length)) (some (.d (.str (bU s xs)),Γ)) none
 | .append=>(l6 Γ a).bind fun p=>(one as).bind fun v=>v.d?.bind fun x=>cond (ay (p.2.length+1)) (some (.d .none,Γ.set p.1 (some (.list (p.2++[x]))))) none
 | .get=>(lY Γ a).bind fun p=>(one as).bind fun v=>(v.of D.ck).map fun k=>(.d ((bw k p.2).getD .none),Γ)
 | .pop=>(lY Γ a).bind fun p=>(two as).bind fun w=>(w.1.of D.ck).bind fun k=>w.2.d?.bind fun z=>cond (z.isNone&&ay p.2.length) (some (.d ((bw k p.2).getD .none),Γ.set p.1 (some (.sd (dh k p.2))))) none
noncomputable def gF(Γ:ag)(m:Me)(a:V):Bool:=match m with
 | .append=>(l6 Γ a).isSome
 | .get=>(lY Γ a).isSome
 | .pop=>(lY Γ a).isSome
 |_=>(a.of D.ck).isSome
noncomputable def GQ:Mu->Bool
 | .inst C _=>I' C 679
 |_=>false
noncomputable def sx(Γ:ag)(x:V):Option Nat:=x.l?.bind fun n=>(bq Γ n).bind fun m=>cond (GQ m) (some n) none
noncomputable def Bi.calm:Bi->Bool
 | .any=>false
 |_=>true
noncomputable def tagged(es:List V):Option (List D):=iW es
noncomputable def outD:Option V->Option (List D)
 |none=>some []
 |some v=>v.d?.map fun x=>[x]
noncomputable def Res.D1{α:Type}:Res α->Option (α×ag)
 | .ok a _ Γ=>some (a,Γ)
 |_=>none
noncomputable def Res.y0{α:Type}:Res α->Option (α×aq×ag)
 | .ok a ρ Γ=>some (a,ρ,Γ)
 |_=>none
noncomputable def di(one:V->aq->ag->Res (Option V)):List V->aq->ag->List D->Res (List D)
 | [],ρ,Γ,acc => .ok acc.reverse ρ Γ
 |v::r,ρ,Γ,acc => .aT (one v ρ Γ).y0 fun q => .aT (outD q.1) fun l=>di one r q.2.1 q.2.2 (l++acc)
noncomputable def bf.len:bf->Nat
 | .nil=>0
 | .cons _ es=>es.len+1
noncomputable def bf.isNil:bf->Bool
 | .nil=>true
 |_=>false
noncomputable def Value.fu:Value->Option Addr
 | .ref a=>some a
 |_=>none
noncomputable def V.fu(v:V):Option Addr:=(v.of D.val?).bind Value.fu
noncomputable def Ex.pick{α:Type}(d:α)(fs:Tx->α)(fv:Nat->Nat->α)(fg:Nat->α)(ft:bf->Nat->α)(fc:QC->Nat->α):Ex->α
 | .str y _=>fs y
 | .var i p=>fv i p
 | .glob g _=>fg g
 | .tup es p=>ft es p
 | .comp _ _ _ _ _ _ _ sc pc=>fc sc pc
 |_=>d
noncomputable def Ex.yy:Ex->Option Tx:=Ex.pick Oi some (fun _ _=>Oi) (fun _=>Oi) (fun _ _=>Oi) fun _ _=>Oi
noncomputable def Fy:Nat->Mu
 |0 => .sd []
 |1 => .vd []
 |_ => .nd []
noncomputable def RG.vp:RG->Option ag
 | .ok v Γ=>cond (qR v) (some Γ) none
 |_=>none
noncomputable def rV(x:Bool)(a:Addr):Mu:=cond x (.exc a [] false false) (.inst a [])
noncomputable def dv(O:Nat->List V->ag->RG)(vs:List V)(Γ:ag):Nat->RG
 |0 => .aT (two vs) fun w => .aT (w.1.l?.bind fun n=>w.2.d?.bind fun _=>i8 Γ n) fun _ => .ok (.d .none) Γ
 |k+1=>O k vs Γ
mutual
noncomputable def Ex.ev(O:aL)(m:Md):Ex->Tab->aq->ag->Res V
 | .none _,T,ρ,Γ => .ok (.d .none) ρ Γ
 | .bool b _,T,ρ,Γ => .ok (.d (.bool b)) ρ Γ
 | .int i _,T,ρ,Γ => .ok (.d (.int i)) ρ Γ
 | .str x _,T,ρ,Γ => .ok (.d (.str x)) ρ Γ
 | .var i _,T,ρ,Γ => .opt ρ Γ (ρ[i]?).join
 | .jL i _,T,ρ,Γ => .aT (ρ[i]?).join fun v => .aT (Mine.jL Γ v) fun p => .ok (.d p.1) (ρ.set i (some (.d p.1))) p.2
 | .glob g _,T,ρ,Γ => .opt ρ Γ ((T.gn[g]?).map fun p => .d p.2)
 | .bin op a b _,T,ρ,Γ=>(a.ev O m T ρ Γ).bind fun x ρ Γ=>(b.ev O m T ρ Γ).bind fun y ρ Γ => .opt ρ Γ (x.d?.bind fun x=>y.d?.bind fun y=>(gZ op x y).map .d)
 | .cmp op a b _,T,ρ,Γ=>(a.ev O m T ρ Γ).bind fun x ρ Γ=>(b.ev O m T ρ Γ).bind fun y ρ Γ => .opt ρ Γ ((iG Γ op x y).map fun b => .d (.bool b))
 | .ny es _,T,ρ,Γ=>es.bL O m T ρ Γ
 | .tY es _,T,ρ,Γ=>es.gD O m T ρ Γ
 | .neg a _,T,ρ,Γ=>(a.ev O m T ρ Γ).bind fun x ρ Γ => .opt ρ Γ ((x.of D.int?).map fun i => .d (.int (-i)))
 | .oV t a b _,T,ρ,Γ=>(t.ev O m T ρ Γ).bind fun v ρ Γ=>cond v (a.ev O m T ρ Γ) (b.ev O m T ρ Γ)
 | .tup es _,T,ρ,Γ=>(es.ev O m T ρ Γ).bind fun vs ρ Γ => .opt ρ Γ ((cond (ay vs.length) (iW vs) none).map fun l => .d (.tup l))
 | .lst es _,T,ρ,Γ=>(es.ev O m T ρ Γ).bind fun vs ρ Γ => .opt ρ Γ ((cond (ay vs.length) (iW vs) none).map fun l => .d (.lst l))
 | .nz _,T,ρ,Γ => .ok (.loc Γ.length) ρ (Γ++[some (.list [])])
 | .sE k _,T,ρ,Γ => .ok (.loc Γ.length) ρ (Γ++[some (Fy k)])
 | .rK x _ e _,T,ρ,Γ => .aT e.yy fun y => .ok (.loc Γ.length) ρ (Γ++[some (.sd [(x,.str y)])])
 | .sub a i _,T,ρ,Γ=>(a.ev O m T ρ Γ).bind fun x ρ Γ=>(i.ev O m T ρ Γ).bind fun y ρ Γ => .opt ρ Γ (cF Γ x y)
 | .pk a lo _ _,T,ρ,Γ=>(a.ev O m T ρ Γ).bind fun x ρ Γ=>(lo.ev O m T ρ Γ).bind fun y ρ Γ => .opt ρ Γ ((y.of D.int?).bind fun i=>dq x (some i) none)
 | .pQ a hi _ _,T,ρ,Γ=>(a.ev O m T ρ Γ).bind fun x ρ Γ=>(hi.ev O m T ρ Γ).bind fun y ρ Γ => .opt ρ Γ ((y.of D.int?).bind fun i=>dq x none (some i))
 | .ni a lo hi _ _,T,ρ,Γ=>(a.ev O m T ρ Γ).bind fun x ρ Γ=>(lo.ev O m T ρ Γ).bind fun y ρ Γ=>(hi.ev O m T ρ Γ).bind fun z ρ Γ => .opt ρ Γ ((y.of D.int?).bind fun i=>(z.of D.int?).bind fun j=>dq x (some i) (some j))
 | .attr a n _,T,ρ,Γ=>(a.ev O m T ρ Γ).bind fun x ρ Γ => .opt ρ Γ (kB Γ n x)
 | .call k f q es _,T,ρ,Γ=>(f.ev O m T ρ Γ).bind fun fv ρ Γ=>(es.ev O m T ρ Γ).bind fun vs ρ Γ => .aT fv.fu fun a=>cond (OI k T.fa.length&&I' a (T.fa.getD k 0)) ((d4 O m k q vs Γ).res ρ) .no
 | .gH b f es _,T,ρ,Γ=>(es.ev O m T ρ Γ).bind fun vs ρ Γ => .opt ρ Γ ((cond (b.calm||m.b) (builtin b Γ vs) none).map .d)
 | .new C f es _,T,ρ,Γ => .aT T.ca[C]? fun p=>(f.ev O m T ρ Γ).bind fun fv ρ Γ=>(es.ev O m T ρ Γ).bind fun vs ρ Γ => .aT fv.fu fun b=>cond (I' p.1 b&&ay vs.length) (.aT (O m.b p.2.2 (.loc Γ.length::vs) (Γ++[some (rV p.2.1 p.1)])).vp fun Γ' => .ok (.loc Γ.length) ρ Γ') .no
 | .jz a me es _ _,T,ρ,Γ=>(a.ev O m T ρ Γ).bind fun x ρ Γ=>cond (gF Γ me x) ((es.ev O m T ρ Γ).bind fun vs ρ Γ => .aT (method Γ me x vs) fun p => .ok p.1 ρ p.2) .no
 | .mE a k es _ _,T,ρ,Γ=>(a.ev O m T ρ Γ).bind fun x ρ Γ => .aT (sx Γ x) fun n=>(es.ev O m T ρ Γ).bind fun vs ρ Γ=>(O m.b k (.loc n::vs) Γ).res ρ
 | .init a C es _ _,T,ρ,Γ=>(es.ev O m T ρ Γ).bind fun vs ρ Γ=>(dv (O m.b) vs Γ C).res ρ
 | .comp elt tgt it ifs locs aA gk _ _,T,ρ,Γ=>(it.ev O m T ρ Γ).bind fun x ρ Γ => .aT (dm x) fun vs=>cond (m.b&&ay vs.length) (
   .aT (di (fun v ρ Γ=>(tgt.bC O .free (T.sub gk) v ρ Γ).bind fun _ ρ Γ=>(ifs.bL O .free (T.sub gk) ρ Γ).bind fun b ρ Γ=>cond b ((elt.ev O .free (T.sub gk) ρ Γ).bind fun v ρ Γ => .ok (some v) ρ Γ) (.ok none ρ Γ)) vs (O1 locs.length none++aA.map fun i=>(ρ[i]?).join) Γ []).D1 fun p => .ok (.d (.lst p.1)) ρ p.2) .no
noncomputable def Ex.bC(O:aL)(m:Md):Ex->Tab->V->aq->ag->Res Unit
 | .var i _,T,v,ρ,Γ => .ok () (ρ.set i (some v)) Γ
 | .tup es _,T,v,ρ,Γ => .aT (v.of D.ju) fun l=>cond (m.b&&I' es.len l.length) (es.mi O m T (l.map .d) ρ Γ) .no
 | .attr a n _,T,v,ρ,Γ=>(a.ev O m T ρ Γ).bind fun x ρ Γ => .aT (q0 Γ n v x) fun Γ => .ok () ρ Γ
 | .sub a i _,T,v,ρ,Γ=>(a.ev O m T ρ Γ).bind fun x ρ Γ=>(i.ev O m T ρ Γ).bind fun y ρ Γ => .aT (ku Γ y v x) fun Γ => .ok () ρ Γ
 |_,T,_,_,_ => .no
noncomputable def bf.mi(O:aL)(m:Md):bf->Tab->List V->aq->ag->Res Unit
 | .nil,T,vs,ρ,Γ=>cond vs.isEmpty (.ok () ρ Γ) .no
 | .cons e es,T,vs,ρ,Γ => .aT vs.head? fun v=>(e.bC O m T v ρ Γ).bind fun _ ρ Γ=>es.mi O m T vs.tail ρ Γ
noncomputable def bf.ev(O:aL)(m:Md):bf->Tab->aq->ag->Res (List V)
 | .nil,T,ρ,Γ => .ok [] ρ Γ
 | .cons e es,T,ρ,Γ=>(e.ev O m T ρ Γ).bind fun v ρ Γ=>(es.ev O m T ρ Γ).bind fun vs ρ Γ => .ok (v::vs) ρ Γ
noncomputable def bf.bL(O:aL)(m:Md):bf->Tab->aq->ag->Res V
 | .nil,T,_,_ => .no
 | .cons e es,T,ρ,Γ=>cond es.isNil (e.ev O m T ρ Γ) ((e.ev O m T ρ Γ).bind fun v ρ Γ => .aT (d9 Γ v) fun b=>cond b (es.bL O m T ρ Γ) (.ok v ρ Γ))
noncomputable def bf.gD(O:aL)(m:Md):bf->Tab->aq->ag->Res V
 | .nil,T,_,_ => .no
 | .cons e es,T,ρ,Γ=>cond es.isNil (e.ev O m T ρ Γ) ((e.ev O m T ρ Γ).bind fun v ρ Γ => .aT (d9 Γ v) fun b=>cond b (.ok v ρ Γ) (es.gD O m T ρ Γ))
noncomputable def Te.ev(O:aL)(m:Md):Te->Tab->aq->ag->Res Bool
 | .val e,T,ρ,Γ=>(e.ev O m T ρ Γ).bind fun v ρ Γ => .opt ρ Γ (d9 Γ v)
 | .not t _,T,ρ,Γ=>(t.ev O m T ρ Γ).bind fun b ρ Γ => .ok (!b) ρ Γ
 | .and ts _,T,ρ,Γ=>ts.bL O m T ρ Γ
 | .or ts _,T,ρ,Γ=>ts.gD O m T ρ Γ
 | .chain a o1 b o2 c _,T,ρ,Γ=>(a.ev O m T ρ Γ).bind fun x ρ Γ=>(b.ev O m T ρ Γ).bind fun y ρ Γ => .aT (iG Γ o1 x y) fun q=>cond q ((c.ev O m T ρ Γ).bind fun z ρ Γ => .opt ρ Γ (iG Γ o2 y z)) (.ok false ρ Γ)
noncomputable def bY.bL(O:aL)(m:Md):bY->Tab->aq->ag->Res Bool
 | .nil,T,ρ,Γ => .ok true ρ Γ
 | .cons t ts,T,ρ,Γ=>(t.ev O m T ρ Γ).bind fun b ρ Γ=>cond b (ts.bL O m T ρ Γ) (.ok false ρ Γ)
noncomputable def bY.gD(O:aL)(m:Md):bY->Tab->aq->ag->Res Bool
 | .nil,T,ρ,Γ => .ok false ρ Γ
 | .cons t ts,T,ρ,Γ=>(t.ev O m T ρ Γ).bind fun b ρ Γ=>cond b (.ok true ρ Γ) (ts.gD O m T ρ Γ)
end
noncomputable def Fl.loop(ρ:aq)(Γ:ag)(k:Res Fl):Fl->Res Fl
 | .next=>k
 | .cont=>k
 | .brk => .ok .next ρ Γ
 | .ret v => .ok (.ret v) ρ Γ
noncomputable def Fl.seq(ρ:aq)(Γ:ag)(k:Res Fl):Fl->Res Fl
 | .next=>k
 |f => .ok f ρ Γ
noncomputable def Fl.sH:Fl->Bool
 | .next=>true
 |_=>false
noncomputable def fO(t:aq->ag->Res Bool)(b:aq->ag->Res Fl):Nat->aq->ag->Res Fl
 |0,_,_ => .no
 |n+1,ρ,Γ=>(t ρ Γ).bind fun v ρ Γ=>cond v ((b ρ Γ).bind fun f ρ Γ=>f.loop ρ Γ (fO t b n ρ Γ)) (.ok .next ρ Γ)
noncomputable def bO(b:V->aq->ag->Res Fl):List V->aq->ag->Res Fl
 | [],ρ,Γ => .ok .next ρ Γ
 |v::r,ρ,Γ=>(b v ρ Γ).bind fun f ρ Γ=>f.loop ρ Γ (bO b r ρ Γ)
noncomputable def rounds:Nat:=1000
noncomputable def Ai:D->Bool
 | .none=>true
 | .str _=>true
 | .int _=>true
 | .bool _=>true
 |_=>false
noncomputable def oZ:V->Bool
 | .d x=>Ai x
 |_=>false
noncomputable def vL(m:Md)(n:Nat)(e:Exc)(ρ:aq)(Γ:ag):Res Fl:=match m with
 | .free => .ex n ρ Γ
 | .hold k=>cond (I' k n) (.ex n ρ Γ) (.aT (i8 Γ k) fun e'=>cond e'.x .no (.ex n ρ (Γ.set n (some {e with x:=true}.mu))))
 | .eS => .no
noncomputable def Res.less(i:Nat):Res Fl->Res Fl
 | .ok f ρ Γ => .ok f (ρ.set i none) Γ
 | .ex n ρ Γ => .ex n (ρ.set i none) Γ
 | .no => .no
noncomputable def Res.both(k:Fl->aq->ag->Res Fl)(kx:Nat->aq->ag->Res Fl):Res Fl->Res Fl
 | .ok f ρ Γ=>k f ρ Γ
 | .ex n ρ Γ=>kx n ρ Γ
 | .no => .no
mutual
noncomputable def St.ex(T:Tab)(O:aL):St->Md->aq->ag->Res Fl
 | .expr e _,m,ρ,Γ=>(e.ev O m T ρ Γ).bind fun v ρ Γ=>cond (oZ v) (.ok .next ρ Γ) .no
 | .asg t e _,m,ρ,Γ=>(e.ev O m T ρ Γ).bind fun v ρ Γ=>(t.bC O m T v ρ Γ).bind fun _ ρ Γ => .ok .next ρ Γ
 | .aug i op e _ _,m,ρ,Γ => .aT ((ρ[i]?).join.bind V.d?) fun a=>(e.ev O m T ρ Γ).bind fun v ρ Γ => .aT (v.d?.bind (pe op a)) fun r => .ok .next (ρ.set i (some (.d r))) Γ
 | .jw a n op e _ _,m,ρ,Γ=>(a.ev O m T ρ Γ).bind fun x ρ Γ => .aT ((kB Γ n x).bind fun o=>o.of D.int?) fun i=>(e.ev O m T ρ Γ).bind fun v ρ Γ => .aT (v.d?.bind (pe op (.int i))) fun r => .aT (q0 Γ n (.d r) x) fun Γ => .ok .next ρ Γ
 | .ifs t a b _,m,ρ,Γ=>(t.ev O m T ρ Γ).bind fun v ρ Γ=>cond v (a.ex T O m ρ Γ) (b.ex T O m ρ Γ)
 | .nZ t b _,m,ρ,Γ=>fO (fun ρ Γ=>t.ev O m T ρ Γ) (fun ρ Γ=>b.ex T O m ρ Γ) rounds ρ Γ
 | .kz t it b _,m,ρ,Γ=>(it.ev O m T ρ Γ).bind fun x ρ Γ => .aT (dm x) fun vs=>cond m.b (bO (fun v ρ Γ=>(t.bC O .free T v ρ Γ).bind fun _ ρ Γ=>b.ex T O .free ρ Γ) vs ρ Γ) .no
 | .ret e _,m,ρ,Γ=>(e.ev O m T ρ Γ).bind fun v ρ Γ => .ok (.ret v) ρ Γ
 | .nN _,m,ρ,Γ => .ok (.ret (.d .none)) ρ Γ
 | .nF e _,m,ρ,Γ=>(e.ev O m T ρ Γ).bind fun v ρ Γ => .aT v.l? fun n => .aT (i8 Γ n) fun e=>vL m n e ρ Γ
 | .gQ b C i h _ _,m,ρ,Γ=>cond m.b ((b.ex T O .free ρ Γ).both .ok fun n ρ Γ=>(C.ev O .free T ρ Γ).bind fun c ρ Γ => .aT (i8 Γ n) fun e => .aT c.fu fun C=>cond (I' C e.C) ((h.ex T O (.hold n) (ρ.set i (some (.loc n))) Γ).less i) .no) .no
 | .iJ b f _,m,ρ,Γ=>cond m.b ((b.ex T O .free ρ Γ).both (fun w ρ Γ=>(f.ex T O .free ρ Γ).bind fun w' ρ Γ=>cond w'.sH (.ok w ρ Γ) .no) fun n ρ Γ => .aT (i8 Γ n) fun e=>(f.ex T O (.hold n) ρ (Γ.set n (some {e with t:=true}.mu))).bind fun w ρ Γ=>cond w.sH (.aT (i8 Γ n) fun e=>cond e.t (.ex n ρ Γ) .no) .no) .no
 | .brk _,_,ρ,Γ => .ok .brk ρ Γ
noncomputable def av.ex(T:Tab)(O:aL):av->Md->aq->ag->Res Fl
 | .nil,_,ρ,Γ => .ok .next ρ Γ
 | .cons s ss,m,ρ,Γ=>(s.ex T O m ρ Γ).bind fun f ρ Γ=>f.seq ρ Γ (ss.ex T O m ρ Γ)
end
structure Fn where
 gl:List (Str×D)
 ns:List Str
 np:Nat
 df:List D
 body:av
noncomputable def Fn.start(f:Fn)(as:List V):Option aq:=
 let miss:=f.np-as.length
 cond (OB as.length f.np&&OB miss f.df.length) (some ((as.map some)++((f.df.drop (f.df.length-miss)).map fun d=>some (.d d))++O1 (f.ns.length-f.np) none)) none
noncomputable def Fl.out(Γ:ag):Fl->RG
 | .ret v => .ok v Γ
 | .next => .ok (.d .none) Γ
 |_ => .no
noncomputable def Res.out:Res Fl->RG
 | .ok f _ Γ=>f.out Γ
 | .ex n _ Γ => .ex n Γ
 | .no => .no
noncomputable def calls(T:Tab)(fs:Nat->Option Fn):Nat->aL
 |0,_,_,_,_ => .no
 |n+1,b,k,as,Γ => .aT (fs k) fun f => .aT (f.start as) fun ρ=>(f.body.ex {T with gn:=f.gl} (calls T fs n) (cond b .free .eS) ρ Γ).out
noncomputable def n0:List Str:=["text","errorcode"]
section
open Mine.Ex renaming var->a,str->e,int->h,glob->k,cmp->l,bin->m,sub->q,call->r,tup->u,attr->v,gH->x,jz->z,bool->B,lst->C,none->I,mE->K,oV->L,nz->M,jL->O,comp->P,neg->Q,ni->R,sE->S,pk->U,new->W,ny->X,pQ->Z
open Mine.bf renaming cons->b,nil->g
open Mine.av renaming cons->d,nil->f
open Mine.St renaming asg->i,ret->o,ifs->p,expr->A,aug->F,kz->G,nF->J,nZ->N
open Mine.Te renaming val->j,and->H,or->T,not->Y,chain->ae
open Mine.bY renaming cons->w,nil->y
noncomputable def b0:av:=(d (o (W 1 (k 0 10743205905) (b (h 1 10746875923) (b (a 0 10748448793) (b (a 1 10751594532) g))) 10743205925) 10739535909) f)
noncomputable def g0:List (Str×D):=[("Raised",.val (.ref 84))]
noncomputable def f0:Fn:=⟨g0,n0,2,[.val (.ref 131)],b0⟩
noncomputable def n1:List Str:=["usage"]
noncomputable def b1:av:=(d (o (r 0 (k 0 11280077840) true (b (m .Add (m .Add (e [119,114,111,110,103,32,35,32,97,114,103,115,58,32,115,104,111,117,108,100,32,98,101,32,34] 11283223596) (a 0 11298952244) 11283223604) (e [34] 11303146554) 11283223610) (b (u (b (e [84,67,76] 11306292290) (b (e [87,82,79,78,71,65,82,71,83] 11309962319) g)) 11305768016) g)) 11280077905) 11276407889) f)
noncomputable def g1:List (Str×D):=[("error",.val (.ref 139))]
noncomputable def f1:Fn:=⟨g1,n1,1,[],b1⟩
noncomputable def n2:List Str:=["names"]
noncomputable def b2:av:=(d (p (j (l .Lt (x .len (k 0 11814852618) (b (a 0 11816949776) g) 11814852625) (h 3 11821668373) 11814852629)) (d (o (z (e [32,111,114,32] 12087482901) .join (b (a 0 12093774368) g) 12087482906 12087482913) 12083812897) f) f 11813280289) (d (o (m .Add (m .Add (z (e [44,32] 12353821711) .join (b (Z (a 0 12359064602) (Q (h 1 12363258910) 12362734622) 12362210334 12359064607) g) 12353821716 12353821728) (e [44,32,111,114,32] 12366404650) 12353821738) (q (a 0 12371647538) (Q (h 1 12375317557) 12374793269) 12371647542) 12353821750) 12350151734) f))
noncomputable def g2:List (Str×D):=[("len",.val (.builtin "len"))]
noncomputable def f2:Fn:=⟨g2,n2,1,[],b2⟩
noncomputable def n3:List Str:=["what","got","names","begun","name","sort"]
noncomputable def b3:av:=(d (i (a 3 12887023625) (M 12891217934) 12887023630) (d (G (a 4 13157556748) (a 2 13161751061) (d (p (j (l .Eq (a 4 13427565583) (a 1 13431759894) 13427565590)) (d (o (a 4 13700195863) 13696525847) f) f 13425993239) (d (p (H (w (j (l .NotEq (a 1 13964437518) (e [] 13968107540) 13964437524)) (w (j (z (a 4 13971777565) .startsw (b (a 1 13980166188) g) 13971777576 13971777581)) y)) 13964437549) (d (A (z (a 3 14233397777) .append (b (a 4 14240213533) g) 14233397784 14233397790) 14233397790) f) f 13962865182) f)) 13155461662) (d (p (j (l .Eq (x .len (k 0 14499212298) (b (a 3 14501309456) g) 14499212305) (h 1 14506552342) 14499212310)) (d (o (q (a 3 14771842580) (h 0 14774988310) 14771842583) 14768172567) f) f 14497639959) (d (i (a 5 15034511368) (L (j (l .Gt (x .len (k 0 15046570014) (b (a 3 15048667172) g) 15046570021) (h 0 15053385769) 15046570025)) (e [97,109,98,105,103,117,111,117,115,32] 15038181399) (e [98,97,100,32] 15057055797) 15038181429) 15034511413) (d (J (r 0 (k 1 15306093071) true (b (m .Add (m .Add (m .Add (m .Add (m .Add (a 5 15309238804) (a 0 15312908827) 15309238811) (e [32,34] 15316578850) 15309238818) (a 1 15320248872) 15309238824) (e [34,58,32,109,117,115,116,32,98,101,32] 15323394616) 15309238840) (r 2 (k 2 15331783234) true (b (a 2 15335977544) g) 15331783241) 15309238857) (b (u (b (e [84,67,76] 15340696145) (b (e [76,79,79,75,85,80] 15344366171) (b (e [73,78,68,69,88] 15349609060) (b (a 0 15354327658) (b (a 1 15357473391) g))))) 15340171888) g)) 15306093169) 15302947441) f)))))
noncomputable def g3:List (Str×D):=[("len",.val (.builtin "len")),("error",.val (.ref 139)),("listing",.val (.ref 153))]
noncomputable def f3:Fn:=⟨g3,n3,3,[],b3⟩
noncomputable def b4:av:=(d (p (j (l .NotEq (v (a 0 16915136013) 0 16915136018) (h 1 16923000343) 16915136023)) (d (.nN 17184096270) f) f 16913563662) (d (p (j (l .Eq (v (a 0 17452007949) 5 17452007954) (e [] 17459872280) 17452007960)) (d (i (v (a 0 17720968206) 5 17720968211) (v (a 0 17728308252) 1 17728308258) 17720968226) f) f 17450435618) (d (i (v (a 0 17987307018) 5 17987307023) (m .Add (m .Add (v (a 0 17994647064) 5 17994647069) (e [10,32,32,32,32] 18001987112) 17994647080) (a 1 18007754287) 17994647087) 17987307055) (d (i (v (a 0 18255742986) 6 18255742995) (B true 18265180186) 18255743002) f))))
noncomputable def g4:List (Str×D):=[]
noncomputable def f4:Fn:=⟨g4,["raised","text"],2,[],b4⟩
noncomputable def b5:av:=(d (o (l .In (a 0 24970312204) (u (b (e [32] 24973457940) (b (e [9] 24976079386) (b (e [10] 24979225120) (b (e [11] 24982370856) (b (e [12] 24986565168) (b (e [13] 24990759478) g)))))) 24972933687) 24970312247) 24966642231) f)
noncomputable def g5:List (Str×D):=[]
noncomputable def f5:Fn:=⟨g5,["c"],1,[],b5⟩
noncomputable def b6:av:=(d (p (j (l .NotEq (x .len (k 0 25505086986) (b (a 0 25507184140) g) 25505086989) (h 1 25510329874) 25505086994)) (d (o (Q (h 1 25778241553) 25777717265) 25774047249) f) f 25503514641) (d (i (a 1 26040386053) (x .ord (k 1 26042483211) (b (a 0 26044580365) g) 26042483214) 26040386062) (d (p (ae (h 48 26310394889) .LtE (a 1 26313540622) .LtE (h 57 26316162068) 26310394900) (d (o (m .Sub (a 1 26583025168) (h 48 26585122325) 26583025173) 26579355157) f) f 26308822549) (d (p (ae (h 97 26847266825) .LtE (a 1 26850412558) .LtE (h 122 26853034005) 26847266837) (d (o (m .Sub (a 1 27119897104) (h 87 27121994261) 27119897109) 27116227093) f) f 26845694485) (d (p (ae (h 65 27384138761) .LtE (a 1 27387284494) .LtE (h 90 27389905940) 27384138772) (d (o (m .Sub (a 1 27656769040) (h 55 27658866197) 27656769045) 27653099029) f) f 27382566421) (d (o (Q (h 1 27923632141) 27923107853) 27919437837) f))))))
noncomputable def g6:List (Str×D):=[("len",.val (.builtin "len")),("ord",.val (.builtin "ord"))]
noncomputable def f6:Fn:=⟨g6,["c","n"],1,[],b6⟩
noncomputable def b7:av:=(d (p (j (l .Eq (a 0 28457882635) (e [] 28462076945) 28457882641)) (d (o (I 28730512915) 28726842899) f) f 28456310291) (d (i (a 2 28993181705) (h 0 28997376013) 28993181709) (d (G (a 3 29263714825) (a 0 29266336273) (d (i (a 4 29532150793) (r 6 (k 0 29534247953) true (b (a 3 29537393683) g) 29534247956) 29532150804) (d (p (T (w (j (l .Lt (a 4 29802159628) (h 0 29804256784) 29802159632)) (w (j (l .GtE (a 4 29806878229) (a 1 29809499677) 29806878237)) y)) 29802159645) (d (o (I 30074789911) 30071119895) f) f 29800587287) (d (i (a 2 30337458701) (m .Add (m .Mult (a 2 30341653013) (a 1 30345847324) 30341653020) (a 4 30349517344) 30341653024) 30337458720) f))) 29261619744) (d (o (a 2 30607467536) 30603797520) f))))
noncomputable def g7:List (Str×D):=[("digit",.val (.ref 202))]
noncomputable def f7:Fn:=⟨g7,["text","base","value","c","n"],2,[],b7⟩
noncomputable def b8:av:=(d (p (j (l .In (a 0 31142242315) (u (b (e [120] 31146960915) (b (e [88] 31149582360) g)) 31146436633) 31142242329)) (d (o (h 16 31414872593) 31411202577) f) f 31140669969) (d (p (j (l .In (a 0 31679114251) (u (b (e [111] 31683832851) (b (e [79] 31686454296) g)) 31683308569) 31679114265)) (d (o (h 8 31951744528) 31948074512) f) f 31677541904) (d (p (j (l .In (a 0 32215986187) (u (b (e [98] 32220704787) (b (e [66] 32223326232) g)) 32220180505) 32215986201)) (d (o (h 2 32488616464) 32484946448) f) f 32214413840) (d (p (j (l .In (a 0 32752858123) (u (b (e [100] 32757576723) (b (e [68] 32760198168) g)) 32757052441) 32752858137)) (d (o (h 10 33025488401) 33021818385) f) f 32751285777) (d (o (h 0 33291827212) 33288157196) f)))))
noncomputable def f8:Fn:=⟨[],["mark"],1,[],b8⟩
noncomputable def b9:av:=(d (i (u (b (a 1 33825029129) (b (a 2 33828699153) g)) 33825029137) (u (b (h 0 33833942038) (b (x .len (k 0 33835514907) (b (a 0 33837612064) g) 33835514913) g)) 33833417762) 33825029154) (d (N (H (w (j (l .Lt (a 1 34096610831) (a 2 34100805144) 34096610840)) (w (j (r 5 (k 1 34106572325) true (b (q (a 0 34111290922) (a 1 34113912368) 34111290929) g) 34106572338)) y)) 34096610866) (d (F 1 .Add (h 1 34368716818) 34363998221 34363998226) f) 34093465618) (d (N (H (w (j (l .Lt (a 1 34633482767) (a 2 34637677080) 34633482776)) (w (j (r 5 (k 1 34643444261) true (b (q (a 0 34648162858) (m .Sub (a 2 34650784305) (h 1 34655502901) 34650784309) 34648162870) g) 34643444279)) y)) 34633482807) (d (F 2 .Sub (h 1 34906113043) 34900870158 34900870163) f) 34630337555) (d (i (a 3 35167208972) (B false 35172976148) 35167208980) (d (p (H (w (j (l .Lt (a 1 35437217804) (a 2 35441412117) 35437217813)) (w (j (l .In (q (a 0 35447179294) (a 1 35449800740) 35447179301) (u (b (e [43] 35455567917) (b (e [45] 35458189362) g)) 35455043635) 35447179315)) y)) 35437217843) (d (i (a 3 35706178064) (l .Eq (q (a 0 35711945239) (a 1 35714566685) 35711945246) (e [45] 35719809573) 35711945253) 35706178085) (d (F 1 .Add (h 1 35979332626) 35974614029 35974614034) f)) f 35435645970) (d (i (a 4 36240952840) (h 0 36244622860) 36240952844) (d (p (H (w (j (l .Gt (m .Sub (a 2 36510961677) (a 1 36515680277) 36510961685) (h 2 36519874585) 36510961689)) (w (j (l .Eq (q (a 0 36523020322) (a 1 36525641768) 36523020329) (e [48] 36530884656) 36523020336)) y)) 36510961712) (d (i (a 4 36779921932) (r 8 (k 2 36783591958) true (b (q (a 0 36787786267) (m .Add (a 1 36790407713) (h 1 36794602021) 36790407717) 36787786278) g) 36783591975) 36779921959) f) f 36509389351) (d (p (j (l .Gt (a 4 37047833611) (h 0 37051503631) 37047833615)) (d (i (a 5 37316793869) (r 7 (k 3 37320988188) true (b (R (a 0 37327803937) (m .Add (a 1 37330425383) (h 2 37334619691) 37330425387) (a 2 37335668274) 37330425394 37327803955) (b (a 4 37340386873) g)) 37320988218) 37316793914) f) (d (i (a 5 37853665805) (r 7 (k 3 37857860124) true (b (R (a 0 37864675873) (a 1 37867297319) (a 2 37870443054) 37867297326 37864675887) (b (h 10 37875161651) g)) 37857860148) 37853665844) f) 37046262324) (d (p (j (l .Is (a 5 38121577484) (I 38126296084) 38121577492)) (d (o (I 38394207763) 38390537747) f) f 38120005139) (d (o (L (j (a 3 38665789469)) (Q (a 5 38661070865) 38660546577) (a 5 38673129512) 38660546600) 38656876584) f))))))))))
noncomputable def g9:List (Str×D):=[("len",.val (.builtin "len")),("is_blank",.val (.ref 195)),("base_of",.val (.ref 216)),("digits_value",.val (.ref 209))]
noncomputable def f9:Fn:=⟨g9,["text","first","behind","is_minus","base","value"],1,[],b9⟩
noncomputable def jM:av:=(d (i (a 1 39193748489) (r 9 (k 0 39197942804) true (b (a 0 39202661401) g) 39197942810) 39193748506) (d (p (j (l .IsNot (a 1 39463757324) (I 39470573080) 39463757336)) (d (o (l .NotEq (a 1 39736387604) (h 0 39741106201) 39736387609) 39732717593) f) f 39462184985) (d (i (a 2 39999056391) (z (a 0 40002202126) .lower g 40002202132 40002202134) 39999056406) (d (p (j (l .In (a 2 40269065226) (u (b (e [] 40273259537) (b (e [111] 40275356694) g)) 40272735255) 40269065239)) (d (o (I 40541695507) 40538025491) f) f 40267492883) (d (G (a 3 40806461452) (u (b (e [116,114,117,101] 40811180055) (b (e [121,101,115] 40815374366) (b (e [111,110] 40819044388) g))) 40810655781) (d (p (j (z (a 3 41076470287) .startsw (b (a 2 41084858910) g) 41076470298 41076470303)) (d (o (B true 41349100567) 41345430551) f) f 41074897943) f) 40804365335) (d (G (a 3 41611769356) (u (b (e [102,97,108,115,101] 41616487960) (b (e [110,111] 41621206558) (b (e [111,102,102] 41624352293) g))) 41615963686) (d (p (j (z (a 3 41881778191) .startsw (b (a 2 41890166814) g) 41881778202 41881778207)) (d (o (B false 42154408472) 42150738456) f) f 41880205848) f) 41609673240) (d (o (I 42418650127) 42414980111) f)))))))
noncomputable def MD:Fn:=⟨[("whole_of",.val (.ref 223))],["text","value","low","word"],1,[],jM⟩
noncomputable def jO:av:=(d (i (a 1 42951852041) (r 10 (k 0 42956046355) true (b (a 0 42960240664) g) 42956046361) 42951852057) (d (p (j (l .Is (a 1 43221860876) (I 43226579476) 43221860884)) (d (J (r 0 (k 1 43493966867) true (b (m .Add (m .Add (e [101,120,112,101,99,116,101,100,32,98,111,111,108,101,97,110,32,118,97,108,117,101,32,98,117,116,32,103,111,116,32,34] 43497112630) (a 0 43516511293) 43497112637) (e [34] 43520181315) 43497112643) (b (u (b (e [84,67,76] 43523327051) (b (e [86,65,76,85,69] 43526997076) (b (e [66,79,79,76,69,65,78] 43531715679) g))) 43522802784) g)) 43493966945) 43490821217) f) f 43220288609) (d (o (a 1 43760829968) 43757159952) f)))
noncomputable def NF:Fn:=⟨[("bool_of",.val (.ref 230)),("error",.val (.ref 139))],["text","value"],1,[],jO⟩
noncomputable def jF:av:=(d (i (a 2 44562467848) (m .Add (a 1 44566137869) (h 3 44568759313) 44566137873) 44562467857) (d (p (j (l .Eq (q (a 0 44832476683) (a 1 44835098126) 44832476687) (e [117] 44838768150) 44832476694)) (d (i (a 2 45101436940) (m .Add (a 1 45105106961) (h 5 45107728405) 45105106965) 45101436949) f) (d (p (j (l .Eq (q (a 0 45370397197) (a 1 45373018640) 45370397201) (e [85] 45376688664) 45370397208)) (d (i (a 2 45638308876) (m .Add (a 1 45641978897) (h 9 45644600341) 45641978901) 45638308885) f) f 45367776277) f) 44830905365) (d (i (a 3 45904647689) (m .Add (a 1 45908841998) (h 1 45911463442) 45908842002) 45904647698) (d (i (a 4 46173083657) (h 0 46177277965) 46173083661) (d (N (H (w (j (l .Lt (a 3 46444665359) (a 2 46448859670) 46444665366)) (w (j (l .Lt (a 3 46453578272) (x .len (k 0 46457772582) (b (a 0 46459869739) g) 46457772588) 46453578284)) (w (j (l .LtE (a 4 46465636919) (h 69631 46470355520) 46465636928)) y))) 46444665409) (d (i (a 5 46712052748) (r 6 (k 1 46715722772) true (b (q (a 0 46718868505) (a 3 46721489951) 46718868512) g) 46715722785) 46712052769) (d (p (T (w (j (l .Lt (a 5 46982061583) (h 0 46985731603) 46982061587)) (w (j (l .Gt (a 5 46988353051) (h 15 46992023072) 46988353056)) y)) 46982061600) (d (.brk 47251021841) f) f 46980489233) (d (i (a 4 47517360653) (m .Add (m .Mult (a 4 47521554965) (h 16 47525749274) 47521554970) (a 5 47528370721) 47521554977) 47517360673) (d (F 3 .Add (h 1 47790515218) 47785796621 47785796626) f)))) 46441522194) (d (p (j (l .Eq (a 3 48053708300) (m .Add (a 1 48058426898) (h 1 48061048342) 48058426902) 48053708310)) (d (o (u (b (q (a 0 48326862868) (a 1 48329484311) 48326862872) (b (a 3 48332105759) g)) 48326338592) 48322668576) f) f 48052135968) (d (o (u (b (x .chr (k 2 48593201679) (b (a 4 48595298837) g) 48593201686) (b (a 3 48599493149) g)) 48592677406) 48589007390) f)))))))
noncomputable def NQ:Fn:=⟨[("len",.val (.builtin "len")),("digit",.val (.ref 202)),("chr",.val (.builtin "chr"))],["text","at","most","place","value","step"],2,[],jF⟩
noncomputable def jK:av:=(d (i (a 2 49125879305) (a 1 49130073614) 49125879310) (d (i (a 3 49394315273) (h 0 49398509581) 49394315277) (d (N (H (w (j (l .Lt (a 2 49665896975) (m .Add (a 1 49670091284) (h 3 49672712728) 49670091288) 49665896984)) (w (j (l .Lt (a 2 49675858466) (x .len (k 0 49680052776) (b (a 0 49682149933) g) 49680052782) 49675858478)) (w (j (l .Lt (a 3 49687917113) (h 32 49692111422) 49687917118)) y))) 49665897023) (d (i (a 4 49933284364) (r 6 (k 1 49936954388) true (b (q (a 0 49940100121) (a 2 49942721567) 49940100128) g) 49936954401) 49933284385) (d (p (T (w (j (l .Lt (a 4 50203293199) (h 0 50206963219) 50203293203)) (w (j (l .Gt (a 4 50209584667) (h 7 50213254687) 50209584671)) y)) 50203293215) (d (.brk 50472253457) f) f 50201720849) (d (i (a 3 50738592269) (m .Add (m .Mult (a 3 50742786581) (h 8 50746980889) 50742786585) (a 4 50749078048) 50742786592) 50738592288) (d (F 2 .Add (h 1 51011746834) 51007028237 51007028242) f)))) 49662753810) (d (o (u (b (x .chr (k 2 51277561359) (b (a 3 51279658517) g) 51277561366) (b (a 2 51283852829) g)) 51277037086) 51273367070) f))))
noncomputable def Lh:Fn:=⟨[("len",.val (.builtin "len")),("digit",.val (.ref 202)),("chr",.val (.builtin "chr"))],["text","at","place","value","step"],2,[],jK⟩
noncomputable def jT:av:=(d (i (a 2 51810238984) (R (a 0 51813909007) (m .Add (a 1 51816530450) (h 1 51819151894) 51816530454) (m .Add (a 1 51820200473) (h 2 51822821917) 51820200477) 51816530461 51813909022) 51810239006) (d (p (j (l .Eq (a 2 52080247819) (e [] 52084442129) 52080247825)) (d (o (u (b (e [92] 52353402388) (b (m .Add (a 1 52356548120) (h 1 52359169564) 52356548124) g)) 52352878109) 52349208093) f) f 52078675485) (d (i (a 3 52615546889) (z (e [97,98,102,110,114,116,118] 52619741205) .find (b (a 2 52627605535) g) 52619741210 52619741216) 52615546912) (d (p (j (l .GtE (a 3 52885555724) (h 0 52890274321) 52885555729)) (d (o (u (b (q (e [7,8,12,10,13,9,11] 53158710312) (a 3 53171817518) 53158710319) (b (m .Add (a 1 53176011827) (h 2 53178633271) 53176011831) g)) 53158186040) 53154516024) f) f 52883983416) (d (p (j (l .Eq (a 2 53422427659) (e [10] 53426621971) 53422427667)) (d (i (a 4 53691387918) (m .Add (a 1 53696106515) (h 2 53698727959) 53696106519) 53691387927) (d (N (j (l .In (R (a 0 53962969618) (a 4 53965591065) (m .Add (a 4 53969261088) (h 1 53973979684) 53969261092) 53965591076 53962969637) (u (b (e [32] 53977649709) (b (e [9] 53980271155) g)) 53977125428) 53962969652)) (d (F 4 .Add (h 1 54235599895) 54230357010 54230357015) f) 53959824407) (d (o (u (b (e [32] 54500890131) (b (a 4 54503511579) g)) 54500365852) 54496695836) f))) f 53420856860) (d (p (j (l .In (a 2 54764607499) (u (b (e [120] 54769326099) (b (e [117] 54771947544) (b (e [85] 54774568989) g))) 54768801822) 54764607518)) (d (o (r 12 (k 0 55037237783) true (b (a 0 55041956380) (b (m .Add (a 1 55045102112) (h 1 55047723556) 55045102116) g)) 55037237797) 55033567781) f) f 54763035173) (d (p (j (l .In (a 2 55301479435) (u (b (e [48] 55306198035) (b (e [49] 55308819480) (b (e [50] 55311440925) (b (e [51] 55314062370) (b (e [52] 55316683815) (b (e [53] 55319305260) (b (e [54] 55321926705) (b (e [55] 55324548150) g)))))))) 55305673783) 55301479479)) (d (o (r 13 (k 1 55574109721) true (b (a 0 55579876894) (b (m .Add (a 1 55583022626) (h 1 55585644070) 55583022630) g)) 55574109735) 55570439719) f) f 55299907111) (d (o (u (b (a 2 55840972816) (b (m .Add (a 1 55844118548) (h 2 55846739992) 55844118552) g)) 55840448537) 55836778521) f))))))))
noncomputable def KL:Fn:=⟨[("hex_sign",.val (.ref 244)),("octal_sign",.val (.ref 251))],["text","at","sign","known","behind"],2,[],jT⟩
noncomputable def MU:av:=(d (p (T (w (j (l .GtE (a 1 56643659273) (x .len (k 0 56646805008) (b (a 0 56648902165) g) 56646805014) 56643659286)) (w (j (r 5 (k 1 56653620770) true (b (q (a 0 56658339367) (a 1 56660960810) 56658339371) g) 56653620780)) y)) 56643659308) (d (.nN 56912619534) f) f 56642086926) (d (i (a 3 57178958343) (a 1 57182104076) 57178958348) (d (N (H (w (j (l .Lt (a 3 57450540045) (x .len (k 0 57453685779) (b (a 0 57455782936) g) 57453685785) 57450540057)) (w (j (l .Lt (a 3 57461025825) (m .Add (a 1 57464171558) (h 20 57466793003) 57464171563) 57461025835)) (w (Y (j (r 5 (k 1 57473084477) true (b (q (a 0 57477803074) (a 3 57480424518) 57477803079) g) 57473084488)) 57470987336) y))) 57450540105) (d (F 3 .Add (h 1 57721597456) 57717927435 57717927440) f) 57447394832) (d (J (r 0 (k 2 57987411983) true (b (m .Add (m .Add (m .Add (m .Add (e [108,105,115,116,32,101,108,101,109,101,110,116,32,105,110,32] 57990557730) (a 2 58001567785) 57990557737) (e [32,102,111,108,108,111,119,101,100,32,98,121,32,34] 58005237820) 57990557756) (R (a 0 58015199299) (a 1 58017820742) (a 3 58019393610) 58017820746 58015199307) 57990557771) (e [34,32,105,110,115,116,101,97,100,32,111,102,32,115,112,97,99,101] 58023063650) 57990557794) (b (u (b (e [84,67,76] 58035122282) (b (e [86,65,76,85,69] 58038792307) (b (e [76,73,83,84] 58043510907) (b (e [74,85,78,75] 58047705219) g)))) 58034598020) g)) 57987412101) 57984266373) f))))
noncomputable def NA:Fn:=⟨[("len",.val (.builtin "len")),("is_blank",.val (.ref 195)),("error",.val (.ref 139))],["text","at","what","end"],3,[],MU⟩
noncomputable def Mw:av:=(d (i (u (b (a 2 58521138185) (b (a 3 58524808205) g)) 58521138189) (u (b (h 1 58527953938) (b (a 1 58529526809) g)) 58527429658) 58521138202) (d (N (j (l .Lt (a 3 58792719884) (x .len (k 0 58795341330) (b (a 0 58797438487) g) 58795341336) 58792719896)) (d (i (a 4 59060107273) (q (a 0 59062204432) (a 3 59064825875) 59062204436) 59060107284) (d (p (j (l .Eq (a 4 59330116108) (e [92] 59332737556) 59330116116)) (d (F 3 .Add (h 1 59602222099) 59599076366 59599076371) f) (d (p (j (l .Eq (a 4 59868036622) (e [123] 59870658069) 59868036629)) (d (F 2 .Add (h 1 60140666902) 60135948305 60135948310) f) (d (p (j (l .Eq (a 4 60404908558) (e [125] 60407530005) 60404908565)) (d (F 2 .Sub (h 1 60677538838) 60672820241 60672820246) (d (p (j (l .Eq (a 2 60942829076) (h 0 60947547673) 60942829081)) (d (A (r 15 (k 1 61211789340) true (b (a 0 61218605089) (b (m .Add (a 3 61221750821) (h 1 61224372265) 61221750825) (b (e [98,114,97,99,101,115] 61225945139) g))) 61211789364) 61211789364) (d (o (u (b (R (a 0 61484419612) (a 1 61487041058) (a 3 61490186789) 61487041061 61484419622) (b (m .Add (a 3 61492808234) (h 1 61495429678) 61492808238) g)) 61483895343) 61480225327) f)) f 60941257263) f)) f 60402289199) f) 59865418287) f) 59328547375) (d (F 3 .Add (h 1 61747612687) 61744466954 61744466959) f))) 58789579791) (d (J (r 0 (k 2 62013951503) true (b (e [117,110,109,97,116,99,104,101,100,32,111,112,101,110,32,98,114,97,99,101,32,105,110,32,108,105,115,116] 62017097262) (b (u (b (e [84,67,76] 62034398774) (b (e [86,65,76,85,69] 62038068799) (b (e [76,73,83,84] 62042787399) (b (e [66,82,65,67,69] 62046981712) g)))) 62033874513) g)) 62013951570) 62010805842) f)))
noncomputable def Nt:Fn:=⟨[("len",.val (.builtin "len")),("check_behind",.val (.ref 265)),("error",.val (.ref 139))],["text","first","depth","at","c"],2,[],Mw⟩
noncomputable def Nf:av:=(d (i (a 2 62547677703) (M 62550823436) 62547677708) (d (N (j (l .Lt (a 1 62819259404) (x .len (k 0 62821880850) (b (a 0 62823978007) g) 62821880856) 62819259416)) (d (i (a 3 63086646793) (q (a 0 63088743952) (a 1 63091365395) 63088743956) 63086646804) (d (p (j (l .Eq (a 3 63356655628) (e [92] 63359277076) 63356655636)) (d (i (u (b (a 3 63625615885) (b (a 1 63627188753) g)) 63625615889) (r 14 (k 1 63629810205) true (b (a 0 63635053090) (b (a 1 63638198822) g)) 63629810215) 63625615911) f) (d (p (j (l .Eq (a 3 63894576142) (e [34] 63897197589) 63894576149)) (d (A (r 15 (k 2 64162487832) true (b (a 0 64169303581) (b (m .Add (a 1 64172449313) (h 1 64175070757) 64172449317) (b (e [113,117,111,116,101,115] 64176643631) g))) 64162487856) 64162487856) (d (o (u (b (z (e [] 64435118102) .join (b (a 2 64439312415) g) 64435118107 64435118112) (b (m .Add (a 1 64442458148) (h 1 64445079592) 64442458152) g)) 64434593833) 64430923817) f)) (d (F 1 .Add (h 1 64970941459) 64967795726 64967795731) f) 63891956755) f) 63355085843) (d (A (z (a 2 65234134539) .append (b (a 3 65239901716) g) 65234134546 65234134549) 65234134549) f))) 62816118293) (d (J (r 0 (k 3 65503619087) true (b (e [117,110,109,97,116,99,104,101,100,32,111,112,101,110,32,113,117,111,116,101,32,105,110,32,108,105,115,116] 65506764846) (b (u (b (e [84,67,76] 65524066358) (b (e [86,65,76,85,69] 65527736383) (b (e [76,73,83,84] 65532454983) (b (e [81,85,79,84,69] 65536649296) g)))) 65523542097) g)) 65503619154) 65500473426) f)))
noncomputable def LW:Fn:=⟨[("len",.val (.builtin "len")),("backslash",.val (.ref 258)),("check_behind",.val (.ref 265)),("error",.val (.ref 139))],["text","at","out","c"],2,[],Nf⟩
noncomputable def LM:av:=(d (i (a 2 66037345287) (M 66040491020) 66037345292) (d (N (H (w (j (l .Lt (a 1 66308926988) (x .len (k 0 66311548434) (b (a 0 66313645591) g) 66311548440) 66308927000)) (w (Y (j (r 5 (k 1 66321509930) true (b (q (a 0 66326228527) (a 1 66328849970) 66326228531) g) 66321509940)) 66319412788) y)) 66308927029) (d (i (a 3 66576314377) (q (a 0 66578411536) (a 1 66581032979) 66578411540) 66576314388) (d (p (j (l .Eq (a 3 66846323212) (e [92] 66848944660) 66846323220)) (d (i (u (b (a 3 67115283469) (b (a 1 67116856337) g)) 67115283473) (r 14 (k 2 67119477789) true (b (a 0 67124720674) (b (a 1 67127866406) g)) 67119477799) 67115283495) f) (d (F 1 .Add (h 1 67655301139) 67652155406 67652155411) f) 66844751891) (d (A (z (a 2 67918494219) .append (b (a 3 67924261396) g) 67918494226 67918494229) 67918494229) f))) 66305784341) (d (o (u (b (z (e [] 68189027342) .join (b (a 2 68193221655) g) 68189027347 68189027352) (b (a 1 68196367388) g)) 68188503069) 68184833053) f)))
noncomputable def KY:Fn:=⟨[("len",.val (.builtin "len")),("is_blank",.val (.ref 195)),("backslash",.val (.ref 258))],["text","at","out","c"],2,[],LM⟩
noncomputable def Kz:av:=(d (N (H (w (j (l .Lt (a 1 68724850700) (x .len (k 0 68727472146) (b (a 0 68729569303) g) 68727472152) 68724850712)) (w (j (r 5 (k 1 68734812197) true (b (q (a 0 68739530794) (a 1 68742152237) 68739530798) g) 68734812207)) y)) 68724850735) (d (F 1 .Add (h 1 68995383823) 68992238090 68992238095) f) 68721705487) (d (p (j (l .GtE (a 1 69260149769) (x .len (k 0 69263295504) (b (a 0 69265392661) g) 69263295510) 69260149782)) (d (o (I 69532780051) 69529110035) f) f 69258577427) (d (p (j (l .Eq (q (a 0 69797021707) (a 1 69799643150) 69797021711) (e [123] 69803313174) 69797021718)) (d (o (r 16 (k 2 70069651997) true (b (a 0 70077516322) (b (m .Add (a 1 70080662054) (h 1 70083283498) 70080662058) g)) 70069652011) 70065981995) f) f 69795449387) (d (p (j (l .Eq (q (a 0 70333893643) (a 1 70336515086) 70333893647) (e [34] 70340185110) 70333893654)) (d (o (r 17 (k 3 70606523933) true (b (a 0 70614388258) (b (m .Add (a 1 70617533990) (h 1 70620155434) 70617533994) g)) 70606523947) 70602853931) f) f 70332321323) (d (o (r 18 (k 4 70872862743) true (b (a 0 70879678492) (b (a 1 70882824224) g)) 70872862753) 70869192737) f)))))
noncomputable def MO:Fn:=⟨[("len",.val (.builtin "len")),("is_blank",.val (.ref 195)),("braced_element",.val (.ref 272)),("quoted_element",.val (.ref 279)),("bare_element",.val (.ref 286))],["text","at"],2,[],Kz⟩
noncomputable def xT:av:=(d (i (a 1 71406064649) (M 71410258958) 71406064654) (d (i (a 2 71674500617) (r 19 (k 0 71678694936) true (b (a 0 71685510685) (b (h 0 71688656416) g)) 71678694945) 71674500641) (d (N (j (l .IsNot (a 2 71946082319) (I 71952898075) 71946082331)) (d (A (z (a 1 72213469709) .append (b (q (a 2 72220285466) (h 0 72223431196) 72220285469) g) 72213469716 72213469726) 72213469726) (d (i (a 2 72481905677) (r 19 (k 0 72486099996) true (b (a 0 72492915745) (b (q (a 2 72496061480) (h 1 72499207210) 72496061483) g)) 72486100012) 72481905708) f)) 71942937644) (d (o (O 1 72751914512) 72748244496) f))))
noncomputable def Ac:List (Str×D):=[("find_element",.val (.ref 293))]
noncomputable def Jp:Fn:=⟨Ac,["text","items","found"],1,[],xT⟩
noncomputable def MZ:av:=(d (p (j (l .Eq (a 0 73286689294) (e [] 73292456468) 73286689300)) (d (o (e [98,114,97,99,101] 73559319574) 73555649558) f) f 73285116950) (d (i (a 2 73821988362) (q (a 0 73826706964) (h 0 73830901270) 73826706967) 73821988375) (d (i (a 3 74090424332) (l .In (a 2 74096191509) (u (b (e [123] 74101958685) (b (e [34] 74104580130) g)) 74101434403) 74096191523) 74090424355) (d (i (a 4 74358860301) (X (b (a 1 74365151767) (b (l .Eq (a 2 74371443234) (e [35] 74376686121) 74371443241) g)) 74365151785) 74358860329) (d (i (a 5 74627296271) (.tY (b (a 3 74634636314) (b (a 4 74640927783) g)) 74634636327) 74627296295) (d (i (a 6 74895732240) (B false 74903596568) 74895732248) (d (i (u (b (a 7 75164168201) (b (a 8 75167838221) g)) 75164168205) (u (b (h 0 75170983954) (b (h 0 75172556821) g)) 75170459670) 75164168214) (d (N (j (l .Lt (a 8 75435749900) (x .len (k 0 75438371346) (b (a 0 75440468506) g) 75438371355) 75435749915)) (d (i (a 9 75703137289) (q (a 0 75705234451) (a 8 75709428758) 75705234455) 75703137303) (d (F 8 .Add (h 1 75974718991) 75971573258 75971573263) (d (p (j (l .Eq (a 9 76241582092) (e [123] 76244203539) 76241582099)) (d (F 7 .Add (h 1 76515260950) 76510542353 76510542358) f) (d (p (j (l .Eq (a 9 76779502606) (e [125] 76782124053) 76779502613)) (d (F 7 .Sub (h 1 77052132886) 77047414289 77047414294) (d (p (j (l .Lt (a 7 77317423124) (h 0 77321617432) 77317423128)) (d (o (e [101,115,99,97,112,101] 77590053407) 77586383391) f) f 77315850783) f)) (d (p (j (l .In (a 9 77853246478) (u (b (e [93] 77856392214) (b (e [34] 77859013659) g)) 77855867932) 77853246492)) (d (i (a 3 78121158164) (B true 78126925339) 78121158171) (d (i (a 6 78389594136) (B true 78397458463) 78389594143) f)) (d (p (T (w (j (l .In (a 9 78658554382) (u (b (e [91] 78661700118) (b (e [36] 78664321563) (b (e [59] 78666943008) (b (e [92] 78669564454) g)))) 78661175847) 78658554407)) (w (j (r 5 (k 1 78674283059) true (b (a 9 78679001653) g) 78674283062)) y)) 78658554422) (d (i (a 3 78926466068) (B true 78932233243) 78926466075) (d (i (a 5 79194902039) (B true 79202242078) 79194902046) (d (p (j (l .Eq (a 9 79464910864) (e [92] 79467532312) 79464910872)) (d (p (T (w (j (l .Eq (a 8 79735443989) (x .len (k 0 79738589724) (b (a 0 79740686884) g) 79738589733) 79735444005)) (w (j (l .Eq (q (a 0 79746978352) (a 8 79751172659) 79746978356) (e [10] 79754842684) 79746978364)) y)) 79735444028) (d (o (e [101,115,99,97,112,101] 80008074275) 80004404259) f) f 79733871651) (d (p (j (l .In (q (a 0 80272315930) (a 8 80276510237) 80272315934) (u (b (e [123] 80280704550) (b (e [125] 80283325995) (b (e [92] 80285947441) g))) 80280180274) 80272315954)) (d (F 8 .Add (h 1 80544421915) 80541276182 80541276187) f) f 80270743579) f)) f 79463340059) f))) f 78655936539) f) 77850630171) f) 76776888347) f) 76240017435) f))) 75432613915) (d (p (j (l .Gt (a 7 80802896396) (h 0 80807090704) 80802896400)) (d (o (e [101,115,99,97,112,101] 81075526679) 81071856663) f) f 80801324055) (d (p (j (a 3 81339768335)) (d (o (L (H (w (j (a 6 81617641509)) (w (Y (j (a 5 81629175866)) 81627078714) y)) 81617641531) (e [109,97,115,107] 81612398613) (e [98,114,97,99,101] 81638613064) 81612398664) 81608728648) f) f 81338196040) (d (o (L (j (a 4 81884504607)) (e [98,114,97,99,101] 81878737426) (e [110,111,110,101] 81892368939) 81878737451) 81875067435) f)))))))))))
noncomputable def ML:Fn:=⟨[("len",.val (.builtin "len")),("is_blank",.val (.ref 195))],["element","is_hash","begins","is_bound","is_hashed","wants_brace","wants_escape","depth","at","c"],2,[],MZ⟩
noncomputable def LJ:av:=(d (i (a 2 82411939337) (z (e [12,10,13,9,11] 82416133660) .find (b (a 0 82427668003) g) 82416133665 82416133668) 82411939364) (d (p (j (l .GtE (a 2 82681948172) (h 0 82686666769) 82681948177)) (d (o (m .Add (e [92] 82954578451) (q (e [102,110,114,116,118] 82958248477) (a 2 82962442787) 82958248484) 82954578468) 82950908452) f) f 82680375844) (d (p (T (w (j (l .In (a 0 83218820104) (u (b (e [93] 83221965840) (b (e [91] 83224587285) (b (e [36] 83227208730) (b (e [59] 83229830175) (b (e [32] 83232451620) (b (e [92] 83235073066) (b (e [34] 83238218799) g))))))) 83221441584) 83218820144)) (w (H (w (j (a 1 83242937404)) (w (j (l .In (a 0 83249228866) (u (b (e [123] 83252374602) (b (e [125] 83254996047) g)) 83251850320) 83249228880)) y)) 83242937424) y)) 83218820177) (d (o (m .Add (e [92] 83491450387) (a 0 83495120407) 83491450391) 83487780375) f) f 83217247767) (d (o (a 0 83757789196) 83754119180) f))))
noncomputable def Nl:Fn:=⟨[],["c","is_deep","place"],2,[],LJ⟩
noncomputable def Mo:av:=(d (i (a 2 84290991112) (r 21 (k 0 84294661138) true (b (a 0 84298855450) (b (a 1 84303574051) g)) 84294661156) 84290991140) (d (p (j (l .Eq (a 2 84560999947) (e [110,111,110,101] 84565194261) 84560999957)) (d (o (a 0 84833630230) 84829960214) f) f 84559427606) (d (p (j (l .Eq (a 2 85097871883) (e [98,114,97,99,101] 85102066198) 85097871894)) (d (o (m .Add (m .Add (e [123] 85370502162) (a 0 85373647900) 85370502172) (e [125] 85378890786) 85370502178) 85366832162) f) f 85096299554) (d (i (a 3 85633170951) (M 85636316684) 85633170956) (d (p (H (w (j (a 1 85903179790)) (w (j (l .Eq (q (a 0 85909471258) (h 0 85913665564) 85909471261) (e [35] 85916811300) 85909471268)) y)) 85903179812) (d (A (z (a 3 86172140043) .append (b (e [92] 86177907223) g) 86172140050 86172140056) 86172140056) f) f 85901607448) (d (G (a 4 86440576009) (a 0 86443197460) (d (A (z (a 3 86709011979) .append (b (r 22 (k 1 86714779162) true (b (a 4 86718973468) (b (l .Eq (a 2 86720546338) (e [101,115,99,97,112,101] 86724740654) 86720546350) g)) 86714779183) g) 86709011986 86709012016) 86709012016) f) 86438479408) (d (o (z (e [] 86979020813) .join (b (a 3 86983215126) g) 86979020818 86979020823) 86975350807) f)))))))
noncomputable def Nr:Fn:=⟨[("mode_of",.val (.ref 307)),("escaped",.val (.ref 314))],["element","is_hash","mode","out","c"],2,[.bool false],Mo⟩
noncomputable def Jw:av:=(d (i (a 1 87512222727) (M 87515368460) 87512222732) (d (G (a 2 87782755852) (a 0 87786950165) (d (A (z (a 1 88051191819) .append (b (r 23 (k 0 88056959000) true (b (a 2 88060104733) (b (l .Eq (x .len (k 1 88063250466) (b (a 1 88065347622) g) 88063250471) (h 0 88069541932) 88063250476) g)) 88056959021) g) 88051191826 88051191854) 88051191854) f) 87780659246) (d (o (z (e [32] 88321200654) .join (b (a 1 88325919255) g) 88321200659 88321200664) 88317530648) f)))
noncomputable def EA:List (Str×D):=[("quote",.val (.ref 322)),("len",.val (.builtin "len"))]
noncomputable def AZ:Fn:=⟨EA,["items","out","item"],1,[],Jw⟩
noncomputable def K7:av:=(d (i (a 1 89122838537) (v (a 0 89127032850) 1 89127032856) 89122838552) (d (p (j (z (a 1 89392847372) .startsw (b (e [108,105,115,116,32] 89401760287) g) 89392847383 89392847392)) (d (i (a 1 89661807629) (m .Add (e [100,105,99,116] 89666001942) (U (a 1 89670720542) (h 4 89673866272) 89673866273 89670720546) 89666001954) 89661807650) f) (d (p (j (z (a 1 89930767886) .endsw (b (e [32,108,105,115,116] 89938632223) g) 89930767895 89930767904)) (d (i (a 1 90198679565) (m .Add (Z (a 1 90202873877) (Q (h 4 90207068185) 90206543897) 90206019609 90202873882) (e [100,105,99,116] 90209689635) 90202873891) 90198679587) f) f 89928146979) f) 89391276067) (d (o (r 0 (k 0 90468688400) true (b (a 1 90471834134) (b (u (b (e [84,67,76] 90476028446) (b (e [86,65,76,85,69] 90479698471) (b (e [68,73,67,84,73,79,78,65,82,89] 90484417077) (b (q (v (a 0 90491757117) 2 90491757127) (h 3 90500670025) 90491757130) g)))) 90475504203) g)) 90468688460) 90465018444) f)))
noncomputable def MT:Fn:=⟨[("error",.val (.ref 139))],["raised","words"],1,[],K7⟩
noncomputable def I5:av:=(d (.gQ (d (i (a 1 91272423437) (r 20 (k 0 91276617754) true (b (a 0 91282384927) g) 91276617760) 91272423456) f) (k 1 91542432273) 2 (d (J (r 25 (k 2 91812441112) false (b (a 2 91818208287) g) 91812441120) 91809295392) f) 91538762784 91001891872) (d (p (j (l .Eq (m .Mod (x .len (k 3 92077207050) (b (a 1 92079304208) g) 92077207057) (h 2 92084022805) 92077207061) (h 1 92086644250) 92077207066)) (d (J (r 0 (k 4 92349313043) true (b (e [109,105,115,115,105,110,103,32,118,97,108,117,101,32,116,111,32,103,111,32,119,105,116,104,32,107,101,121] 92352458802) (b (u (b (e [84,67,76] 92369760314) (b (e [86,65,76,85,69] 92373430339) (b (e [68,73,67,84,73,79,78,65,82,89] 92378148945) g))) 92369236050) g)) 92349313107) 92346167379) f) f 92075634771) (d (i (a 3 92612506121) (S 0 92616700430) 92612506126) (d (G (a 4 92883039242) (x .range (k 5 92886184979) (b (h 0 92889330709) (b (x .len (k 3 92890903578) (b (a 1 92893000736) g) 92890903585) (b (h 2 92897195044) g))) 92886184997) (d (i (q (a 3 93151475213) (q (a 1 93154620947) (a 4 93157766678) 93154620951) 93151475224) (q (a 1 93161436704) (m .Add (a 4 93164582435) (h 1 93167203879) 93164582439) 93161436712) 93151475240) f) 92880942632) (d (o (O 3 93421484048) 93417814032) f)))))
noncomputable def GJ:List (Str×D):=[("split_list",.val (.ref 300)),("Raised",.val (.ref 84)),("dict_fault",.val (.ref 336)),("len",.val (.builtin "len")),("error",.val (.ref 139)),("range",.val (.type "range"))]
noncomputable def AQ:Fn:=⟨GJ,["text","items","raised","pairs","at"],1,[],I5⟩
noncomputable def Je:av:=(d (i (a 1 93954685961) (M 93958880270) 93954685966) (d (G (a 2 94225219083) (a 0 94228889108) (d (A (z (a 1 94493655053) .append (b (a 2 94500470808) g) 94493655060 94493655065) 94493655065) (d (A (z (a 1 94762091021) .append (b (q (a 0 94768906778) (a 2 94772052510) 94768906783) g) 94762091028 94762091040) 94762091040) f)) 94223122976) (d (o (r 24 (k 0 95032099860) true (b (O 1 95037342746) g) 95032099867) 95028429851) f)))
noncomputable def Ep:List (Str×D):=[("join_list",.val (.ref 329))]
noncomputable def Ah:Fn:=⟨Ep,["pairs","items","key"],1,[],Je⟩
noncomputable def Mv:av:=(d (i (a 3 95833737736) (x .len (k 0 95837407758) (b (a 0 95839504918) g) 95837407767) 95833737751) (d (F 1 .Add (h 1 96105319435) 96102173702 96102173707) (d (N (H (w (j (l .Lt (a 1 96373755404) (a 3 96376376851) 96373755411)) (w (j (l .NotEq (q (a 0 96381095455) (a 1 96385289762) 96381095459) (e [93] 96388959786) 96381095466)) y)) 96373755434) (d (i (a 4 96641142795) (q (a 0 96644288533) (a 1 96648482840) 96644288537) 96641142809) (d (i (a 5 96909578764) (a 4 96913248786) 96909578770) (d (F 1 .Add (h 1 97181160463) 97178014730 97178014735) (d (p (j (l .Eq (R (a 0 97448023570) (a 1 97452217877) (m .Add (a 1 97453790744) (h 1 97456412188) 97453790748) 97452217884 97448023581) (e [45] 97459557924) 97448023588)) (d (p (j (l .GtE (m .Add (a 1 97718556689) (h 1 97721178133) 97718556693) (a 3 97723799581) 97718556701)) (d (o (u (b (B false 97991711261) (b (a 3 97995381283) g)) 97991186980) 97987516964) f) f 97716984356) (d (i (a 5 98253855760) (q (a 0 98257525786) (m .Add (a 1 98261720093) (h 1 98264341537) 98261720097) 98257525794) 98253855778) (d (F 1 .Add (h 2 98525437459) 98522291726 98522291731) f))) f 97446452755) (d (p (T (w (H (w (j (l .LtE (a 4 98790203406) (a 2 98793873427) 98790203411)) (w (j (l .LtE (a 2 98797019161) (a 5 98799640609) 98797019169)) y)) 98790203425) (w (H (w (j (l .LtE (a 5 98804359210) (a 2 98808553519) 98804359215)) (w (j (l .LtE (a 2 98811699253) (a 4 98814320700) 98811699260)) y)) 98804359228) y)) 98790203453) (d (i (a 6 99059163665) (z (a 0 99063357979) .find (b (e [93] 99070173732) (b (a 1 99072795176) g)) 99063357984 99063357993) 99059163689) (d (p (j (l .Lt (a 6 99329172500) (h 0 99333366808) 99329172504)) (d (o (u (b (B true 99602327068) (b (a 3 99605472802) g)) 99601802787) 99598132771) f) f 99327600163) (d (o (u (b (B true 99868665880) (b (m .Add (a 6 99871811615) (h 1 99876005923) 99871811619) g)) 99868141604) 99864471588) f))) f 98788632612) f))))) 96370616356) (d (p (j (l .Lt (a 1 100130286089) (a 3 100132907536) 100130286096)) (d (o (u (b (B false 100403440661) (b (m .Add (a 1 100407110681) (h 1 100409732125) 100407110685) g)) 100402916382) 100399246366) f) f 100128713758) (d (o (u (b (B false 100669779473) (b (a 3 100673449495) g)) 100669255192) 100665585176) f)))))
noncomputable def Lg:Fn:=⟨[("len",.val (.builtin "len"))],["pattern","at","c","size","low","high","close"],3,[],Mv⟩
noncomputable def LS:av:=(d (p (j (l .Eq (q (a 0 101204029966) (a 1 101208224273) 101204029970) (e [63] 101211894297) 101204029977)) (d (o (m .Add (a 1 101476660241) (h 1 101479281685) 101476660245) 101472990229) f) f 101202457621) (d (p (j (l .Eq (q (a 0 101740901902) (a 1 101745096209) 101740901906) (e [91] 101748766233) 101740901913)) (d (i (u (b (a 3 102009862157) (b (a 4 102013532181) g)) 102009862165) (r 28 (k 0 102018250782) true (b (a 0 102021920806) (b (a 1 102026639402) (b (a 2 102028736557) g))) 102018250798) 102009862190) (d (p (j (a 3 102279870992)) (d (o (a 4 102552501273) 102548831257) f) f 102278298649) (d (o (Q (h 1 102819364369) 102818840081) 102815170065) f))) f 101739331089) (d (p (j (l .Eq (q (a 0 103083081742) (a 1 103087276049) 103083081746) (e [92] 103090946074) 103083081754)) (d (F 1 .Add (h 1 103355187727) 103352041994 103352041999) f) f 103081509391) (d (p (j (l .Eq (R (a 0 103619953678) (a 1 103624147985) (m .Add (a 1 103625720852) (h 1 103628342296) 103625720856) 103624147992 103619953689) (a 2 103631488030) 103619953694)) (d (o (m .Add (a 1 103892583953) (h 1 103895205397) 103892583957) 103888913941) f) f 103618381333) (d (o (Q (h 1 104159447053) 104158922765) 104155252749) f)))))
noncomputable def LK:Fn:=⟨[("in_set",.val (.ref 357))],["pattern","at","c","is_in","behind"],3,[],LS⟩
noncomputable def xN:av:=(d (i (q (a 2 104692124682) (a 1 104695794701) 104692124686) (B true 104698940437) 104692124693) (d (N (j (l .Eq (R (a 0 104963706385) (a 1 104967900692) (m .Add (a 1 104969473559) (h 1 104972095003) 104969473563) 104967900699 104963706396) (e [42] 104975240739) 104963706403)) (d (F 1 .Add (h 1 105234239503) 105231093770 105231093775) (d (i (q (a 2 105499529742) (a 1 105503199761) 105499529746) (B true 105506345497) 105499529753) f)) 104960561689) f))
noncomputable def Ao:List (Str×D):=[]
noncomputable def IL:Fn:=⟨Ao,["pattern","at","places"],3,[],xN⟩
noncomputable def v9:av:=(d (p (j (a 2 108451801104)) (d (i (a 0 108720761359) (r 999 (k 0 108726004248) true (b (a 0 108729674272) g) 108726004257) 108720761377) (d (i (a 1 108989197324) (r 999 (k 0 108992867349) true (b (a 1 108996537370) g) 108992867355) 108989197339) f)) f 108450229275) (d (i (a 3 109255536136) (x .len (k 1 109259206158) (b (a 0 109261303318) g) 109259206167) 109255536151) (d (i (a 4 109523972106) (S 2 109528690703) 109523972111) (d (A (r 30 (k 2 109792408078) false (b (a 0 109798175254) (b (h 0 109802893849) (b (a 4 109804466721) g))) 109792408098) 109792408098) (d (G (a 5 110062941193) (a 1 110065562641) (d (p (H (w (j (l .Eq (U (a 0 110332950034) (Q (h 1 110337668629) 110337144341) 110337144342 110332950039) (e [42] 110341338654) 110332950046)) (w (j (l .In (m .Sub (a 3 110345532967) (h 1 110349202987) 110345532971) (a 4 110351824437) 110345532981)) y)) 110332950069) (d (o (B true 110605580311) 110601910295) f) f 110331377687) (d (i (a 6 110868249101) (S 2 110872443410) 110868249106) (d (G (a 7 111138782222) (O 4 111141927960) (d (p (j (l .Eq (R (a 0 111408791062) (a 7 111412985369) (m .Add (a 7 111414558236) (h 1 111417179680) 111414558240) 111412985376 111408791073) (e [42] 111420325416) 111408791080)) (d (A (r 30 (k 2 111677751322) false (b (a 0 111683518498) (b (a 7 111688237094) (b (a 6 111690334253) g))) 111677751342) 111677751342) f) (d (p (j (l .Lt (a 7 111946711571) (a 3 111949333018) 111946711578)) (d (i (a 8 112214623254) (r 29 (k 3 112219341859) true (b (a 0 112225109035) (b (a 7 112229827631) (b (a 5 112231924786) g))) 112219341875) 112214623283) (d (p (j (l .GtE (a 8 112484632089) (h 0 112489874974) 112484632094)) (d (A (r 30 (k 2 112753592350) false (b (a 0 112759359526) (b (a 8 112764078126) (b (a 6 112768272437) g))) 112753592374) 112753592374) f) f 112483059766) f)) f 111944091702) f) 111407220790) f) 111136688182) (d (p (Y (j (a 6 113019406868)) 113017309716) (d (o (B false 113289939992) 113286269976) f) f 113015737368) (d (i (a 4 113552608782) (a 6 113557327382) 113552608790) f))))) 110060850710) (d (o (l .In (a 3 113822617615) (a 4 113826811929) 113822617625) 113818947609) f))))))
noncomputable def jh:List (Str×D):=[("folded",.val (.ref 378)),("len",.val (.builtin "len")),("put_places",.val (.ref 371)),("behind_one",.val (.ref 364))]
noncomputable def x7:Fn:=⟨jh,["pattern","text","is_nocase","size","places","c","after","at","behind"],3,[.bool false],v9⟩
noncomputable def Dq:List Str:=["text","what","names"]
noncomputable def MC:av:=(d (i (a 2 114624255497) (r 20 (k 0 114628449814) true (b (a 0 114634216987) g) 114628449820) 114624255516) (d (p (j (l .NotEq (x .len (k 1 114894264330) (b (a 2 114896361488) g) 114894264337) (h 2 114901604374) 114894264342)) (d (J (r 0 (k 2 115166370323) true (b (e [109,117,115,116,32,104,97,118,101,32,101,120,97,99,116,108,121,32,116,119,111,32,118,97,114,105,97,98,108,101,32,110,97,109,101,115] 115169516090) (b (u (b (e [84,67,76] 115191011906) (b (e [83,89,78,84,65,88] 115194681932) (b (e [100,105,99,116] 115199924820) (b (a 1 115204119130) g)))) 115190487643) g)) 115166370396) 115163224668) f) f 114892692060) (d (o (a 2 115433233424) 115429563408) f)))
noncomputable def ME:Fn:=⟨[("split_list",.val (.ref 300)),("len",.val (.builtin "len")),("error",.val (.ref 139))],Dq,2,[],MC⟩
noncomputable def eu:av:=(d (A (K (a 0 115966435336) 76 (b (q (a 1 115972202516) (h 0 115975348246) 115972202519) (b (a 2 115977445404) g)) 115966435342 115966435357) 115966435357) (d (A (K (a 0 116234871304) 76 (b (q (a 1 116240638484) (h 1 116243784214) 116240638487) (b (a 3 116245881374) g)) 116234871310 116234871327) 116234871327) (d (.gQ (d (o (u (b (h 0 116778034705) (b (K (a 0 116779607575) 69 (b (a 4 116784326178) g) 116779607579 116779607587) g)) 116777510436) 116773840420) f) (k 0 117043849233) 6 (d (p (j (l .In (v (a 6 117312285201) 0 117312285206) (u (b (h 3 117320673820) (b (h 4 117322246687) g)) 117320149536) 117312285216)) (d (o (u (b (v (a 6 117585439770) 0 117585439775) (b (e [] 117592255523) g)) 117584915492) 117581245476) f) f 117310712868) (d (A (r 4 (k 1 117847584272) false (b (a 6 117852302871) (b (m .Add (m .Add (m .Add (m .Add (e [40,34,100,105,99,116,32] 117856497186) (a 5 117862788649) 117856497193) (e [32,108,105,110,101,32] 117866458676) 117856497204) (x .str (k 2 117872225850) (b (v (a 6 117874323009) 7 117874323014) g) 117872225863) 117856497223) (e [41] 117882187341) 117856497229) g)) 117847584334) 117847584334) (d (i (v (a 6 118116020238) 7 118116020243) (h 0 118123360279) 118116020247) (d (J (a 6 118387601940) 118384456212) f)))) 117040181780 116503310868) f)))
noncomputable def la:List (Str×D):=[("Raised",.val (.ref 84)),("note_row",.val (.ref 174)),("str",.val (.type "str"))]
noncomputable def Al:Fn:=⟨la,["host","names","key","value","script","what","raised"],6,[],eu⟩
noncomputable def fi:av:=(d (p (j (l .NotEq (x .len (k 0 118920803850) (b (a 1 118922901008) g) 118920803857) (h 6 118928143894) 118920803862)) (d (J (r 1 (k 1 119192909848) true (b (e [100,105,99,116,32,102,105,108,116,101,114,32,100,105,99,116,105,111,110,97,114,121,32,115,99,114,105,112,116,32,123,107,101,121,86,97,114,78,97,109,101,32,118,97,108,117,101,86,97,114,78,97,109,101,125,32,102,105,108,116,101,114,83,99,114,105,112,116] 119198677087) g) 119192909920) 119189764192) f) f 118919231584) (d (i (a 2 119456102921) (r 32 (k 2 119460297237) true (b (q (a 1 119465540123) (h 4 119468685853) 119465540126) (b (e [102,105,108,116,101,114] 119470783016) g)) 119460297257) 119456102953) (d (i (a 3 119724538889) (r 26 (k 3 119728733203) true (b (q (a 1 119732927513) (h 2 119736073243) 119732927516) g) 119728733213) 119724538909) (d (i (a 4 119992974856) (S 0 119996644877) 119992974861) (d (G (a 5 120263507979) (a 3 120267178004) (d (i (u (b (a 6 120531943948) (b (a 7 120535089682) g)) 120531943954) (r 33 (k 4 120538759709) false (b (a 0 120543478306) (b (a 2 120546624041) (b (a 5 120550294062) (b (q (a 3 120552915509) (a 5 120556061241) 120552915514) (b (q (a 1 120559206977) (h 5 120562352707) 120559206980) (b (e [102,105,108,116,101,114,34,32,115,99,114,105,112,116] 120564449878) g)))))) 120538759767) 120531944023) (d (p (j (l .Eq (a 6 120801952783) (h 3 120806147092) 120801952788)) (d (o (r 27 (k 5 121074583071) true (b (O 4 121081398820) g) 121074583077) 121070913061) f) f 120800380453) (d (p (H (w (j (l .Eq (a 6 121338824719) (h 0 121343019028) 121338824724)) (w (j (r 11 (k 6 121346164770) true (b (a 7 121351407655) g) 121346164776)) y)) 121338824744) (d (i (q (a 4 121607784976) (a 5 121610406420) 121607784981) (q (a 3 121614076445) (a 5 121617222177) 121614076450) 121607784994) f) f 121337252386) f))) 120261413410) (d (o (r 27 (k 5 121875696663) true (b (O 4 121882512412) g) 121875696669) 121872026653) f))))))
noncomputable def pZ:List (Str×D):=[("len",.val (.builtin "len")),("wrong_args",.val (.ref 146)),("two_names",.val (.ref 393)),("dict_of",.val (.ref 343)),("run_pair",.val (.ref 400)),("text_of_dict",.val (.ref 350)),("need_bool",.val (.ref 237))]
noncomputable def sj:Fn:=⟨pZ,["host","words","names","pairs","kept","key","code","text"],2,[],fi⟩
noncomputable def Fz:av:=(d (G (a 2 122410995727) (a 0 122416762907) (d (p (j (r 31 (k 0 122681004559) true (b (a 2 122683626007) (b (a 1 122688344605) g)) 122681004574)) (d (o (B true 122953634839) 122949964823) f) f 122679432215) f) 122408899607) (d (o (B false 123217876496) 123214206480) f))
noncomputable def As:List (Str×D):=[("fits",.val (.ref 386))]
noncomputable def xX:Fn:=⟨As,["patterns","text","pattern"],2,[],Fz⟩
noncomputable def fU:av:=(d (p (j (l .Lt (x .len (k 0 123752651274) (b (a 1 123754748432) g) 123752651281) (h 4 123759467029) 123752651285)) (d (J (r 1 (k 1 124024757272) true (b (e [100,105,99,116,32,102,105,108,116,101,114,32,100,105,99,116,105,111,110,97,114,121,32,102,105,108,116,101,114,84,121,112,101,32,63,97,114,103,32,46,46,46,63] 124030524486) g) 124024757319) 124021611591) f) f 123751078983) (d (i (a 2 124287950344) (r 3 (k 2 124291620367) true (b (e [102,105,108,116,101,114,84,121,112,101] 124294241820) (b (q (a 1 124301581859) (h 3 124304727589) 124301581862) (b (u (b (e [107,101,121] 124307349038) (b (e [115,99,114,105,112,116] 124311019064) (b (e [118,97,108,117,101] 124316261953) g))) 124306824770) g))) 124291620419) 124287950403) (d (p (j (l .Eq (a 2 124557959179) (e [115,99,114,105,112,116] 124562153495) 124557959191)) (d (o (r 34 (k 3 124830589468) false (b (a 0 124837929505) (b (a 1 124841075240) g)) 124830589481) 124826919465) f) f 124556386857) (d (i (a 3 125093258249) (r 26 (k 4 125097452563) true (b (q (a 1 125101646873) (h 2 125104792603) 125101646876) g) 125097452573) 125093258269) (d (i (a 4 125361694216) (S 0 125365364237) 125361694221) (d (G (a 5 125632227339) (a 3 125635897364) (d (i (a 6 125900663310) (a 5 125905381908) 125900663316) (d (p (j (l .Eq (a 2 126170672143) (e [118,97,108,117,101] 126174866458) 126170672154)) (d (i (a 6 126439632402) (q (a 3 126444351002) (a 5 126447496734) 126444351007) 126439632415) f) f 126169099807) (d (p (j (r 35 (k 5 126707544083) true (b (U (a 1 126712262681) (h 4 126715408411) 126715408412 126712262685) (b (a 6 126718029861) g)) 126707544102)) (d (i (q (a 4 126976504336) (a 5 126979125780) 126976504341) (q (a 3 126982795805) (a 5 126985941537) 126982795810) 126976504354) f) f 126705971746) f))) 125630132770) (d (o (r 27 (k 6 127244416023) true (b (O 4 127251231772) g) 127244416029) 127240746013) f)))))))
noncomputable def oA:List (Str×D):=[("len",.val (.builtin "len")),("wrong_args",.val (.ref 146)),("pick",.val (.ref 160)),("filter_script",.val (.ref 407)),("dict_of",.val (.ref 343)),("fits_one",.val (.ref 414)),("text_of_dict",.val (.ref 350))]
noncomputable def uM:Fn:=⟨oA,["host","words","kind","pairs","kept","key","looked"],2,[],fU⟩
noncomputable def Ls:av:=(d (p (j (l .NotIn (a 1 148985632267) (a 0 148991923735) 148985632279)) (d (i (q (a 0 149254592524) (a 1 149257213969) 149254592530) (W 2 (k 0 149261408280) g 149261408282) 149254592538) f) f 148984059930) (d (o (q (a 0 149524601359) (a 1 149527222804) 149524601365) 149520931349) f))
noncomputable def Nh:Fn:=⟨[("Var",.val (.ref 438))],["book","name"],2,[],Ls⟩
noncomputable def L7:av:=(d (i (v (a 0 150057803271) 21 150057803276) (a 1 150063570451) 150057803283) (d (i (v (a 0 150326239239) 1 150326239245) (a 2 150332530709) 150326239253) (d (.jw (a 0 150594675207) 25 .Add (h 1 150602015251) 150594675214 150594675219) (d (o (a 2 150866781200) 150863111184) f))))
noncomputable def Ky:Fn:=⟨[],["var","kind","value"],3,[],L7⟩
noncomputable def KS:av:=(d (o (C (b (u (b (e [97] 169926783504) (b (e [97] 169929404949) (b (e [97] 169932026394) (b (e [123,97,125] 169934647841) g)))) 169926259234) (b (u (b (e [98] 169939366440) (b (e [98] 169941987885) (b (e [98] 169944609330) (b (e [34,98,34] 169947230777) g)))) 169938842170) (b (u (b (e [] 169951949375) (b (e [123,125] 169954046533) (b (e [123,125] 169957192267) (b (e [34,34] 169960338001) g)))) 169951425106) (b (u (b (e [97,32,98] 169964532314) (b (e [123,97,32,98,125] 169968202339) (b (e [123,97,32,98,125] 169972920940) (b (e [97,92,32,98] 169977639541) g)))) 169964008054) (b (u (b (e [35] 169983406716) (b (e [123,35,125] 169986028163) (b (e [35] 169989698184) (b (e [92,35] 169992319631) g)))) 169982882448) (b (u (b (e [125] 169997038230) (b (e [92,125] 169999659677) (b (e [92,125] 170003329700) (b (e [34,125,34] 170006999723) g)))) 169996513964) (b (u (b (e [49] 170011718322) (b (e [49] 170014339767) (b (e [49] 170016961212) (b (e [92,54,49] 170019582660) g)))) 170011194053) (b (u (b (e [98,97] 170024825548) (b (e [98,97] 170027971282) (b (e [98,97] 170031117016) (b (e [92,120,54,50,97] 170034262754) g)))) 170024301283) (b (u (b (e [98,35,97] 170040554219) (b (e [98,35,97] 170044224242) (b (e [98,35,97] 170047894265) (b (e [34,98,35,97,34] 170051564290) g)))) 170040029955) g))))))))) 169925735172) 169922065156) f)
noncomputable def M8:Fn:=⟨[],[],0,[],KS⟩
noncomputable def Kx:av:=(d (o (C (b (u (b (e [49] 170463655440) (b (B true 170466276886) g)) 170463131159) (b (u (b (e [48] 170470471197) (b (B false 170473092644) g)) 170469946917) (b (u (b (e [121,101,115] 170477811245) (b (B true 170481481267) g)) 170477286964) (b (u (b (e [110] 170485675578) (b (B false 170488297025) g)) 170485151298) (b (u (b (e [] 170493015623) (b (I 170495112781) g)) 170492491342) (b (u (b (e [116,82,117] 170499307094) (b (B true 170502977116) g)) 170498782813) (b (u (b (e [111] 170507171427) (b (I 170509792873) g)) 170506647146) (b (u (b (e [32,48,120,49,48,32] 170513987189) (b (B true 170519230075) g)) 170513462908) (b (u (b (e [111,70,102] 170523424388) (b (B false 170527094411) g)) 170522900108) (b (u (b (e [45,48] 170531813011) (b (B false 170534958746) g)) 170531288731) (b (u (b (e [97] 170539677345) (b (I 170542298791) g)) 170539153064) g))))))))))) 170462607017) 170458937001) f)
noncomputable def NI:Fn:=⟨[],[],0,[],Kx⟩
noncomputable def NJ:av:=(d (o (L (j (l .Lt (a 1 171008391713) (x .len (k 0 171012586023) (b (a 0 171014683182) g) 171012586031) 171008391727)) (q (a 0 170999478801) (a 1 171003148823) 170999478808) (a 2 171021498936) 170999478840) 170995808824) f)
noncomputable def IW:Fn:=⟨[("len",.val (.builtin "len"))],["script","place","own"],3,[],NJ⟩
noncomputable def NL:av:=(d (p (j (l .In (a 1 171534253578) (P (a 0 171538447890) (u (b (a 0 171542642202) (b (a 1 171545263649) g)) 171542642209) (a 0 171549982250) y ["one","other"] [] [] ⟨.function,[(".0",.local),("one",.local),("other",.local)],false,false,[]⟩ 171537923627) 171534253611)) (d (o (P (u (b (a 0 171807932436) (b (L (j (l .Eq (a 0 171815272482) (a 2 171818942505) 171815272489)) (a 3 171810553883) (a 1 171823661108) 171810553908) g)) 171807408181) (u (b (a 0 171829428285) (b (a 1 171832049732) g)) 171829428292) (a 0 171836768333) y ["one","other"] [1,2] [] ⟨.function,[(".0",.local),("one",.local),("other",.local),("key",.free),("value",.free)],false,false,[]⟩ 171806883918) 171803213902) f) f 171532681294) (d (o (m .Add (a 0 172073222672) (C (b (u (b (a 1 172078465560) (b (a 2 172081087007) g)) 172077941280) g) 172077416993) 172073222689) 172069552673) f))
noncomputable def JE:Fn:=⟨[],["pairs","key","value"],3,[],NL⟩
noncomputable def Aa:av:=(d (i (a 1 172606424583) (M 172609570316) 172606424588) (d (G (u (b (a 2 172876957707) (b (a 3 172879579154) g)) 172876957714) (a 0 172884297755) (d (G (a 4 173147490831) (C (b (a 2 173151685143) (b (a 3 173154306590) g)) 173151160863) (d (i (a 5 173415926800) (q (P (a 0 173420121113) (a 0 173425364003) (r 39 (k 0 173430082609) true g 173430082611) (w (j (l .Eq (q (a 0 173438471228) (h 0 173441616958) 173438471231) (a 1 173444762694) 173438471238)) y) ["known"] [4] [] ⟨.function,[(".0",.local),("known",.local),("one",.free)],false,false,[]⟩ 173419596871) (h 0 173447384137) 173419596874) 173415926858) (d (A (z (a 1 173684362767) .append (b (q (a 5 173690129947) (L (j (l .Eq (a 1 173695372836) (C g 173699042858) 173695372842)) (h 1 173692751389) (h 2 173703237169) 173692751409) 173690129970) g) 173684362774 173684362803) 173684362803) f)) 173145394739) f) 172874862131) (d (o (z (e [32] 173952274446) .join (b (a 1 173956993047) g) 173952274451 173952274456) 173948604440) f)))
noncomputable def xb:List (Str×D):=[("_law_atoms",.val (.ref 688))]
noncomputable def A3:Fn:=⟨xb,["pairs","out","key","value","one","atom"],1,[],Aa⟩
noncomputable def EL:av:=(d (p (j (l .Eq (m .Mod (a 0 174487049229) (h 8 174491767825) 174487049233) (h 1 174494389270) 174487049238)) (d (o (u (b (e [97,32,49,32,98] 174760203799) (b (u (b (h 1 174765446683) (b (e [109,105,115,115,105,110,103,32,118,97,108,117,101,32,116,111,32,103,111,32,119,105,116,104,32,107,101,121] 174767019579) (b (u (b (e [84,67,76] 174784321091) (b (e [86,65,76,85,69] 174787991116) (b (e [68,73,67,84,73,79,78,65,82,89] 174792709722) g))) 174783796827) g))) 174764922460) g)) 174759679581) 174756009565) f) f 174485476957) (d (p (j (l .Eq (m .Mod (a 0 175023921165) (h 8 175028639761) 175023921169) (h 2 175031261206) 175023921174)) (d (o (u (b (e [97,32,49,32,98,32,123] 175297075737) (b (u (b (h 1 175303367197) (b (e [117,110,109,97,116,99,104,101,100,32,111,112,101,110,32,98,114,97,99,101,32,105,110,32,100,105,99,116] 175304940093) (b (u (b (e [84,67,76] 175322241605) (b (e [86,65,76,85,69] 175325911630) (b (e [68,73,67,84,73,79,78,65,82,89] 175330630236) (b (e [66,82,65,67,69] 175337970277) g)))) 175321717350) g))) 175302842983) g)) 175296551528) 175292881512) f) f 175022348904) (d (i (a 1 175559220231) (e [] 175562365964) 175559220236) (d (i (a 2 175827656201) (M 175831850510) 175827656206) (d (i (a 3 176096092168) (m .FloorDiv (a 0 176099762193) (h 80 176105005079) 176099762199) 176096092183) (d (G (a 4 176366625289) (x .range (k 0 176369246738) (b (m .Mod (m .FloorDiv (a 0 176372392473) (h 16 176377635359) 176372392479) (h 5 176380256803) 176372392483) g) 176369246756) (d (i (a 5 176635061259) (q (r 39 (k 1 176638207000) true g 176638207002) (q (C (b (h 0 176645547037) (b (h 3 176647119904) (b (h 4 176648692771) (b (h 7 176650265638) (b (h 8 176651838505) g))))) 176645022762) (m .Mod (a 3 176653411375) (h 5 176657081395) 176653411379) 176645022772) 176638207029) 176635061301) (d (i (a 6 176903497229) (q (r 39 (k 1 176907691546) true g 176907691548) (m .Mod (m .FloorDiv (a 3 176914507297) (h 5 176918701606) 176914507302) (h 9 176920798762) 176914507306) 176907691563) 176903497259) (d (p (j (l .Eq (m .Mod (m .FloorDiv (a 0 177173506065) (h 8 177178748950) 177173506070) (h 2 177180846106) 177173506074) (h 0 177183467551) 177173506079)) (d (i (a 1 177442466319) (m .Add (m .Add (m .Add (m .Add (a 1 177445612053) (L (j (l .Eq (a 1 177452427810) (e [] 177456097832) 177452427816)) (e [] 177449282075) (e [32] 177460292145) 177449282097) 177445612082) (q (a 5 177463962168) (L (j (l .Eq (a 1 177468680769) (e [] 177472350791) 177468680775)) (h 1 177466059322) (h 2 177476545102) 177466059342) 177463962191) 177445612111) (e [32] 177479166549) 177445612117) (q (a 6 177482312285) (h 2 177485458015) 177482312288) 177445612128) 177442466400) f) (d (i (a 1 177979338255) (m .Add (m .Add (m .Add (m .Add (a 1 177982483989) (e [32,9] 177985629725) 177982483997) (q (a 5 177989824035) (h 3 177991921189) 177989824038) 177982484006) (e [10] 177994542637) 177982484013) (q (a 6 177998212661) (h 3 178001358391) 177998212664) 177982484024) 177979338296) f) 177171934776) (d (i (a 2 178245677069) (r 42 (k 2 178249871384) true (b (O 2 178254589982) (b (q (a 5 178258260003) (h 0 178260357157) 178258260006) (b (q (a 6 178262454317) (h 0 178265600047) 178262454320) g))) 178249871409) 178245677105) (d (i (a 3 178514113036) (m .FloorDiv (a 3 178517783059) (h 45 178521977369) 178517783065) 178514113049) f))))) 176364532249) (d (o (u (b (a 1 178784646159) (b (O 2 178787267606) g)) 178784121879) 178780451863) f)))))))
noncomputable def rB:List (Str×D):=[("range",.val (.type "range")),("_law_atoms",.val (.ref 688)),("_law_put",.val (.ref 707))]
noncomputable def uJ:Fn:=⟨rB,["number","raw","pairs","rest","_","key","value"],1,[],EL⟩
noncomputable def ik:av:=(d (i (a 1 179317323785) (q (C (b (e [107,32,118] 179322042386) (b (e [123,97,32,98,125,32,118] 179325712413) (b (e [107,32,107] 179331479588) (b (e [32,34,118,34,32,107,32] 179335149615) (b (e [107] 179340916788) (b (e [107,32,118,32,122] 179343538237) (b (e [] 179348256833) (b (e [123,107,32,118] 179350353993) g)))))))) 179321518154) (m .Mod (a 0 179354548305) (h 8 179359266901) 179354548309) 179321518166) 179317323862) (d (p (j (l .Lt (m .Mod (a 0 179587332621) (h 8 179592051217) 179587332625) (h 4 179594148373) 179587332629)) (d (o (u (b (a 1 179860487189) (b (q (C (b (C (b (e [107] 179865205788) (b (e [118] 179867827233) g)) 179864681506) (b (C (b (e [97,32,98] 179871497258) (b (e [118] 179875167279) g)) 179870972976) (b (C (b (e [107] 179878837302) (b (e [107] 179881458747) g)) 179878313020) (b (C (b (e [118] 179885128770) (b (e [107] 179887750215) g)) 179884604488) g)))) 179864157257) (m .Mod (a 0 179890895952) (h 8 179895614548) 179890895956) 179864157269) g)) 179859962966) 179856292950) f) f 179585760342) (d (p (j (l .Lt (m .Mod (a 0 180124204557) (h 8 180128923153) 180124204561) (h 7 180131020309) 180124204565)) (d (o (u (b (a 1 180397359125) (b (u (b (h 1 180401553433) (b (e [109,117,115,116,32,104,97,118,101,32,101,120,97,99,116,108,121,32,116,119,111,32,118,97,114,105,97,98,108,101,32,110,97,109,101,115] 180403126337) (b (u (b (e [84,67,76] 180424622153) (b (e [83,89,78,84,65,88] 180428292179) (b (e [100,105,99,116] 180433535067) (b (e [102,105,108,116,101,114] 180437729381) g)))) 180424097894) g))) 180401029223) g)) 180396834920) 180393164904) f) f 180122632296) (d (o (u (b (a 1 180663697937) (b (u (b (h 1 180667892245) (b (e [117,110,109,97,116,99,104,101,100,32,111,112,101,110,32,98,114,97,99,101,32,105,110,32,108,105,115,116] 180669465141) (b (u (b (e [84,67,76] 180686766653) (b (e [86,65,76,85,69] 180690436678) (b (e [76,73,83,84] 180695155278) (b (e [66,82,65,67,69] 180699349591) g)))) 180686242392) g))) 180667368025) g)) 180663173722) 180659503706) f))))
noncomputable def Ap:Fn:=⟨[],["number","names"],1,[],ik⟩
noncomputable def jQ:av:=(d (i (a 1 181196375560) (q (C (b (h 0 181200569869) (b (h 4 181202142736) (b (h 0 181203715603) (b (h 1 181205288470) (b (h 3 181206861337) (b (h 0 181208434204) (b (h 2 181210007071) (b (h 9 181211579938) g)))))))) 181200045603) (m .Mod (a 0 181213152810) (h 8 181217871406) 181213152814) 181200045615) 181196375599) (d (i (a 2 181464811528) (m .FloorDiv (a 0 181468481553) (h 8 181473724438) 181468481558) 181464811542) (d (i (a 3 181733247496) (q (C (b (e [] 181737441806) (b (e [107,101,121] 181739538965) (b (e [118,97,108,117,101] 181743208990) (b (e [110,111,32,107,101,121] 181747927592) (b (e [110,111,32,118,97,108,117,101] 181753170484) (b (e [111,116,104,101,114] 181759461949) g)))))) 181736917566) (m .Mod (a 2 181764180547) (h 6 181767850567) 181764180551) 181736917576) 181733247560) (d (i (a 2 182001683464) (m .FloorDiv (a 2 182005353487) (h 6 182009547796) 182005353492) 182001683476) (d (i (a 4 182270119432) (q (q (r 40 (k 0 182273789462) true g 182273789464) (m .Mod (a 2 182281129501) (h 11 182284799522) 182281129506) 182273789475) (h 0 182286896677) 182273789478) 182270119462) (d (i (a 2 182538555400) (m .FloorDiv (a 2 182542225423) (h 11 182546419733) 182542225429) 182538555413) (d (o (u (b (a 1 182811185680) (b (a 4 182814331414) (b (a 3 182817477148) (b (m .Mod (a 2 182820622882) (h 3 182824292902) 182820622886) (b (q (C (b (e [] 182826390059) (b (e [111,108,100] 182828487218) g)) 182825865779) (m .Mod (m .FloorDiv (a 2 182832157240) (h 3 182836351549) 182832157245) (h 2 182838448705) 182832157249) 182825865794) g))))) 182810661443) 182806991427) f)))))))
noncomputable def JD:Fn:=⟨[("_law_truths",.val (.ref 695))],["number","code","rest","deed","text"],1,[],jQ⟩
noncomputable def Mi:av:=(d (o (C (b (e [107] 183348057615) (b (e [118] 183350679060) (b (e [97,32,98] 183353300507) (b (e [122] 183356970528) g)))) 183347533345) 183343863329) f)
noncomputable def M1:Fn:=⟨[],[],0,[],Mi⟩
noncomputable def LG:av:=(d (o (P (L (j (K (a 1 183894891043) 71 (b (a 0 183899609644) g) 183894891047 183894891053)) (K (a 1 183884929552) 75 (b (a 0 183890172442) g) 183884929557 183884929563) (I 183905376823) 183884929591) (a 0 183910095424) (r 47 (k 0 183914289744) true g 183914289746) y ["name"] [0] [] ⟨.function,[(".0",.local),("name",.local),("host",.free)],false,false,[]⟩ 183884405331) 183880735315) f)
noncomputable def LH:Fn:=⟨[("_law_watched",.val (.ref 740))],["host"],1,[],LG⟩
noncomputable def Ni:av:=(d (i (a 3 184417607174) (L (j (l .In (a 2 184422850066) (C (b (e [107,101,121] 184427568668) (b (e [110,111,32,107,101,121] 184431238694) g)) 184427044391) 184422850087)) (h 0 184420228618) (h 1 184439103022) 184420228654) 184417607214) (d (p (j (l .In (a 2 184687616011) (C (b (e [107,101,121] 184692334613) (b (e [118,97,108,117,101] 184696004638) g)) 184691810335) 184687616031)) (d (A (K (a 0 184956576268) 76 (b (q (a 1 184962343448) (a 3 184965489179) 184962343452) (b (e [110,101,119] 184968110627) g)) 184956576274 184956576292) 184956576292) f) (d (p (H (w (j (l .In (a 2 185225536525) (C (b (e [110,111,32,107,101,121] 185230255130) (b (e [110,111,32,118,97,108,117,101] 185235498022) g)) 185229730855) 185225536551)) (w (j (K (a 0 185243886640) 71 (b (q (a 1 185248605242) (a 3 185251750973) 185248605246) g) 185243886644 185243886655)) y)) 185225536575) (d (A (K (a 0 185493448204) 77 (b (q (a 1 185498691095) (a 3 185501836826) 185498691099) g) 185493448209 185493448220) 185493448220) f) (d (p (j (l .Eq (a 2 185762408461) (e [111,116,104,101,114] 185766602776) 185762408472)) (d (A (K (a 0 186030320140) 76 (b (e [122] 186036087318) (b (e [110,101,119] 186038708765) g)) 186030320146 186030320158) 186030320158) f) f 185759787550) f) 185222916638) f) 184686045726) f))
noncomputable def NH:Fn:=⟨[],["host","names","deed","at"],3,[],Ni⟩
noncomputable def fQ:av:=(d (i (a 2 186565094919) (q (v (a 0 186568240654) 9 186568240660) (e [108,111,103] 186574007834) 186568240667) 186565094939) (d (i (u (b (a 3 186833530888) (b (a 4 186836676623) (b (a 5 186840346645) (b (a 6 186843492379) (b (a 7 186846638113) g))))) 186833530913) (q (q (v (a 0 186850308136) 9 186850308142) (e [112,108,97,110] 186856075317) 186850308150) (x .len (k 0 186860269626) (b (a 2 186862366782) g) 186860269631) 186850308160) 186833530944) (d (A (z (a 2 187101966855) .append (b (u (b (a 1 187108258324) (b (v (a 0 187111404058) 13 187111404064) (b (r 48 (k 1 187117695531) false (b (a 0 187122938416) g) 187117695537) g))) 187107734066) g) 187101966862 187101966899) 187101966899) (d (A (r 49 (k 2 187370402830) false (b (a 0 187376170003) (b (q (v (a 0 187379315737) 9 187379315743) (e [110,97,109,101,115] 187385082919) 187379315752) (b (a 5 187390325806) g))) 187370402863) 187370402863) (d (p (j (l .Eq (a 3 187640411659) (h 0 187644605968) 187640411664)) (d (o (a 4 187913041940) 187909371924) f) f 187638839316) (d (i (a 8 188175710729) (W 1 (k 3 188179905042) (b (a 3 188183575063) (b (a 4 188186720798) (b (u (b (e [69] 188190915108) (b (a 4 188193536555) g)) 188190390828) (b (L (j (l .Eq (a 3 188200352311) (h 2 188204546620) 188200352316)) (h 1 188197730863) (h 0 188208216643) 188197730883) (b (h 0 188209789510) g))))) 188179905095) 188175710791) (d (i (v (a 8 188444146697) 7 188444146702) (a 6 188450962453) 188444146709) (d (i (v (a 8 188712582665) 5 188712582670) (a 7 188719398421) 188712582677) (d (J (a 8 188984164367) 188981018639) f)))))))))
noncomputable def xV:List (Str×D):=[("len",.val (.builtin "len")),("_law_look",.val (.ref 745)),("_law_write",.val (.ref 752)),("Raised",.val (.ref 84))]
noncomputable def ER:Fn:=⟨xV,["host","text","log","code","value","deed","line","info","fault"],2,[],fQ⟩
noncomputable def My:av:=(d (.gQ (d (o (u (b (h 0 189792618001) (b (r 36 (k 0 189794190878) false (b (a 0 189800482339) (b (a 1 189803628074) g)) 189794190891) g)) 189792093740) 189788423724) f) (k 1 190058432529) 2 (d (o (u (b (v (a 2 190329489941) 0 190329489946) (b (v (a 2 190335781409) 1 190335781415) (b (v (a 2 190342597166) 2 190342597176) (b (v (a 2 190351510079) 3 190351510085) (b (v (a 2 190358325836) 4 190358325840) (b (v (a 2 190364093015) 5 190364093020) (b (v (a 2 190370384483) 7 190370384488) g))))))) 190328965737) 190325295721) f) 190054763113 189517892201) f)
noncomputable def Af:Fn:=⟨[("dict_filter",.val (.ref 421)),("Raised",.val (.ref 84))],["host","words","fault"],2,[],My⟩
noncomputable def Lb:av:=(d (o (u (b (a 0 190864264720) (b (a 1 190867410455) (b (a 2 190871080482) (b (L (j (l .Eq (a 0 190879469101) (h 2 190883663410) 190879469106)) (h 1 190876847653) (h 0 190887333433) 190876847673) (b (h 0 190888906300) (b (a 3 190890479170) (b (h 0 190893624901) g))))))) 190863740486) 190860070470) f)
noncomputable def NO:Fn:=⟨[],["code","value","errorcode","info"],4,[],Lb⟩
noncomputable def M3:av:=(d (o (r 52 (k 0 191400612371) true (b (h 1 191405330965) (b (m .Add (m .Add (e [119,114,111,110,103,32,35,32,97,114,103,115,58,32,115,104,111,117,108,100,32,98,101,32,34,100,105,99,116,32,102,105,108,116,101,114,32,100,105,99,116,105,111,110,97,114,121,32] 191406903881) (a 0 191434691153) 191406903889) (e [34] 191438885463) 191406903895) (b (u (b (e [84,67,76] 191442031199) (b (e [87,82,79,78,71,65,82,71,83] 191445701228) g)) 191441506925) (b (e [] 191453041265) g)))) 191400612466) 191396942450) f)
noncomputable def LU:Fn:=⟨[("_law_out",.val (.ref 773))],["usage"],1,[],M3⟩
noncomputable def LX:av:=(d (i (u (b (a 1 191933814280) (b (a 2 191936960015) (b (a 3 191940630037) (b (a 4 191943775771) (b (a 5 191946921505) g))))) 191933814305) (a 0 191950591528) 191933814312) (d (p (j (l .Eq (a 1 192203823115) (h 1 192208017424) 192203823120)) (d (i (a 5 192472783372) (m .Add (m .Add (m .Add (L (j (l .Eq (a 5 192481696285) (e [] 192485890595) 192481696291)) (a 2 192476977685) (a 5 192490084909) 192476977709) (e [10,32,32,32,32,40,34,100,105,99,116,32,102,105,108,116,101,114,34,32,115,99,114,105,112,116,32,108,105,110,101,32] 192494279252) 192476453460) (x .str (k 0 192514202202) (b (a 4 192516299359) g) 192514202208) 192476453472) (e [41] 192520493670) 192476453478) 192472783462) f) f 192202250854) (d (o (r 52 (k 1 192742792211) true (b (a 1 192747510808) (b (a 2 192750656543) (b (u (b (e [69] 192754850853) (b (a 2 192757472300) g)) 192754326573) (b (a 5 192761666611) g)))) 192742792244) 192739122228) f)))
noncomputable def M4:Fn:=⟨[("str",.val (.type "str")),("_law_out",.val (.ref 773))],["plan","code","value","deed","line","info"],1,[],LX⟩
noncomputable def MH:av:=(d (o (P (z (a 1 193280188432) .get (b (a 0 193284907033) g) 193280188436 193280188442) (a 0 193290149923) (r 47 (k 0 193294344243) true g 193294344245) y ["name"] [0] [] ⟨.function,[(".0",.local),("name",.local),("book",.free)],false,false,[]⟩ 193279664182) 193275994166) f)
noncomputable def K1:Fn:=⟨[("_law_watched",.val (.ref 740))],["book"],1,[],MH⟩
noncomputable def Nb:av:=(d (p (j (l .Eq (a 2 193814438923) (e [107,101,121] 193818633236) 193814438932)) (d (i (q (a 0 194083399180) (q (a 1 194086020626) (h 0 194089166356) 194086020629) 194083399190) (e [110,101,119] 194092312094) 194083399198) f) (d (p (j (l .Eq (a 2 194352359437) (e [118,97,108,117,101] 194356553752) 194352359448)) (d (i (q (a 0 194620271116) (q (a 1 194622892562) (h 1 194626038292) 194622892565) 194620271126) (e [110,101,119] 194629184030) 194620271134) f) (d (p (j (l .Eq (a 2 194889231373) (e [110,111,32,107,101,121] 194893425689) 194889231385)) (d (A (z (a 0 195157143052) .pop (b (q (a 1 195161861654) (h 0 195165007384) 195161861657) (b (I 195167104543) g)) 195157143056 195157143072) 195157143072) f) (d (p (j (l .Eq (a 2 195426103309) (e [110,111,32,118,97,108,117,101] 195430297627) 195426103323)) (d (A (z (a 0 195694014988) .pop (b (q (a 1 195698733590) (h 1 195701879320) 195698733593) (b (I 195703976479) g)) 195694014992 195694015008) 195694015008) f) (d (p (j (l .Eq (a 2 195962975245) (e [111,116,104,101,114] 195967169560) 195962975256)) (d (i (q (a 0 196230886924) (e [122] 196233508368) 196230886929) (e [110,101,119] 196237178393) 196230886937) f) f 195960354329) f) 195423483417) f) 194886612505) f) 194349741593) f) 193812870681) f)
noncomputable def Jh:Fn:=⟨[],["book","names","deed"],3,[],Nb⟩
noncomputable def jN:av:=(d (i (a 6 196765661704) (M 196769331725) 196765661709) (d (G (a 7 197036194826) (x .range (k 0 197039340563) (b (x .len (k 1 197042486295) (b (a 2 197044583453) g) 197042486302) g) 197039340575) (d (i (q (a 0 197304630796) (q (a 1 197307252242) (h 0 197310397972) 197307252245) 197304630806) (q (q (a 2 197313543710) (a 7 197316689441) 197313543714) (h 0 197318786596) 197313543717) 197304630821) (d (i (q (a 0 197573066764) (q (a 1 197575688210) (h 1 197578833940) 197575688213) 197573066774) (q (q (a 2 197581979678) (a 7 197585125409) 197581979682) (h 1 197587222564) 197581979685) 197573066789) (d (A (z (a 5 197841502731) .append (b (u (b (a 4 197847794200) (b (h 1 197850939931) (b (r 55 (k 2 197852512806) false (b (a 0 197857755691) g) 197852512812) g))) 197847269933) g) 197841502738 197841502766) 197841502766) (d (i (u (b (a 8 198109938700) (b (a 9 198113084435) (b (a 10 198116754457) (b (a 11 198119900191) (b (a 12 198123045925) g))))) 198109938725) (q (a 3 198126715949) (a 7 198129861680) 198126715953) 198109938737) (d (A (r 56 (k 3 198378374675) false (b (a 0 198384666136) (b (a 1 198387811871) (b (a 10 198391481893) g))) 198378374694) 198378374694) (d (p (j (l .Eq (a 8 198648383503) (h 3 198652577812) 198648383508)) (d (.brk 198917343761) f) f 198646811153) (d (p (j (l .NotIn (a 8 199185255439) (C (b (h 0 199192071193) (b (h 4 199193644060) g)) 199191546909) 199185255453)) (d (o (r 54 (k 4 199457885725) true (b (q (a 3 199463652899) (a 7 199466798630) 199463652903) g) 199457885736) 199454215720) f) f 199183683112) (d (p (j (l .Eq (a 8 199722127375) (h 0 199726321684) 199722127380)) (d (i (a 13 199991087633) (q (P (a 1 199995806231) (u (b (a 0 199999476255) (b (a 1 200002097699) g)) 199999476259) (r 40 (k 5 200005243442) true g 200005243444) (w (j (l .Eq (a 0 200014156347) (a 2 200017826372) 200014156356)) y) ["one","so"] [9] [] ⟨.function,[(".0",.local),("one",.local),("so",.local),("value",.free)],false,false,[]⟩ 199995281989) (h 0 200021496391) 199995281992) 199991087688) (d (p (j (l .Is (a 13 200261096468) (I 200265815068) 200261096476)) (d (i (a 14 200530056723) (m .Add (m .Add (e [101,120,112,101,99,116,101,100,32,98,111,111,108,101,97,110,32,118,97,108,117,101,32,98,117,116,32,103,111,116,32,34] 200533202488) (a 9 200552601152) 200533202496) (e [34] 200556795462) 200533202502) 200530056774) (d (o (r 52 (k 6 200802162719) true (b (h 1 200806881313) (b (a 14 200808454182) (b (u (b (e [84,67,76] 200811599918) (b (e [86,65,76,85,69] 200815269943) (b (e [66,79,79,76,69,65,78] 200819988546) g))) 200811075651) (b (e [] 200826280007) g)))) 200802162760) 200798492744) f)) f 200259524680) (d (p (j (a 13 201066404372)) (d (A (z (a 6 201335364628) .append (b (q (a 2 201341656097) (a 7 201344801828) 201341656101) g) 201335364635 201335364646) 201335364646) f) f 201064832038) f))) f 199720557606) f)))))))) 197034105894) (d (o (u (b (h 0 201601703437) (b (r 43 (k 7 201603276312) true (b (O 6 201608519197) g) 201603276318) g)) 201601179167) 201597509151) f)))
noncomputable def j0:List (Str×D):=[("range",.val (.type "range")),("len",.val (.builtin "len")),("_law_book",.val (.ref 792)),("_law_change",.val (.ref 799)),("_law_noted",.val (.ref 787)),("_law_truths",.val (.ref 695)),("_law_out",.val (.ref 773)),("_law_dict",.val (.ref 712))]
noncomputable def wj:Fn:=⟨j0,["book","names","pairs","plans","text","log","kept","at","code","value","deed","line","info","is_so","why"],6,[],jN⟩
noncomputable def ei:av:=(d (i (a 3 202134381066) (r 41 (k 0 202139099670) true (b (a 0 202144342557) (b (h 1 202148536864) (b (h 0 202150109731) g))) 202139099684) 202134381092) (d (i (a 4 202402817033) (P (r 46 (k 0 202407535638) true (b (r 41 (k 1 202412778528) true (b (a 1 202418021415) (b (m .Add (a 0 202422215726) (h 2 202426410034) 202422215730) (b (q (C (b (h 0 202428507190) (b (h 1 202430080057) (b (h 104 202431652926) (b (h 48 202434274370) g)))) 202427982915) (a 0 202436371529) 202427982922) g))) 202412778571) g) 202407535692) (a 0 202443187286) (x .range (k 1 202447905887) (b (h 4 202451051617) g) 202447905890) y ["place"] [0] [("_law_pass",.val (.ref 733)),("_law_cell",.val (.ref 702))] ⟨.function,[(".0",.local),("place",.local),("_law_pass",.globalImplicit),("_law_cell",.globalImplicit),("script",.free)],false,false,[]⟩ 202407011427) 202402817123) (d (i (u (b (a 5 202671253000) (b (a 6 202674398735) g)) 202671253007) (r 45 (k 2 202678593052) true (b (a 3 202684360227) g) 202678593060) 202671253028) (d (i (a 7 202939688968) (q (C (b (h 6 202943883277) (b (h 6 202945456144) (b (h 6 202947029011) (b (h 5 202948601878) (b (h 6 202950174745) (b (h 4 202951747612) (b (h 6 202953320479) (b (h 7 202954893346) g)))))))) 202943359011) (m .Mod (m .FloorDiv (a 3 202956466218) (h 8 202961709103) 202956466223) (h 8 202963806259) 202956466227) 202943359028) 202939689012) (d (i (a 8 203208124937) (Z (C (b (e [100,105,99,116] 203212843539) (b (e [102,105,108,116,101,114] 203217037853) (b (a 1 203222280738) (b (q (C (b (e [115,99,114,105,112,116] 203225426477) (b (e [115] 203230669362) (b (e [115,99,114,105] 203233290810) g))) 203224902203) (m .Mod (m .FloorDiv (a 3 203237485122) (h 64 203242728008) 203237485128) (h 3 203245349452) 203237485132) 203224902221) (b (a 5 203247446611) (b (e [103,111,32,111,110] 203250592348) (b (e [109,111,114,101] 203255310948) g))))))) 203212319333) (a 7 203260029547) 203259505259 203212319340) 203208125036) (d (i (a 9 203476560904) (W 0 (k 3 203480230932) g 203480230934) 203476560918) (d (i (q (v (a 9 203744996872) 9 203744996878) (e [114,117,110] 203750764052) 203744996885) (k 4 203755482656) 203744996896) (d (i (q (v (a 9 204013432840) 9 204013432846) (e [112,108,97,110] 204019200021) 204013432854) (a 4 204024442910) 204013432862) (d (i (q (v (a 9 204281868808) 9 204281868814) (e [110,97,109,101,115] 204287635990) 204281868823) (a 6 204293403167) 204281868831) (d (i (q (v (a 9 204550304776) 9 204550304782) (e [108,111,103] 204556071956) 204550304789) (M 204560790554) 204550304794) (d (A (K (a 9 204818740744) 76 (b (e [122] 204824507922) (b (e [111,108,100] 204827129369) g)) 204818740750 204818740762) 204818740762) (d (i (a 10 205087176712) (.rK [122] 205091371023 (e [111,108,100] 205093992470) 205090846743) 205087176727) (d (i (a 11 205355612679) (M 205358758412) 205355612684) (d (p (j (l .NotEq (a 7 205625621515) (h 6 205629815824) 205625621520)) (d (i (a 12 205894581771) (r 53 (k 5 205897727512) true (b (e [115,99,114,105,112,116,32,123,107,101,121,86,97,114,78,97,109,101,32,118,97,108,117,101,86,97,114,78,97,109,101,125,32,102,105,108,116,101,114,83,99,114,105,112,116] 205903494728) g) 205897727561) 205894581833) f) (d (p (j (x .isinst (k 6 206163542035) (b (a 6 206169309209) (b (k 7 206172979232) g)) 206163542049)) (d (i (a 12 206431453707) (r 52 (k 8 206434599446) true (b (h 1 206439318040) (b (q (a 6 206440890911) (h 1 206444036641) 206440890914) (b (q (a 6 206446133801) (h 2 206449279531) 206446133804) (b (e [] 206451376688) g)))) 206434599473) 206431453745) f) (d (p (j (x .isinst (k 6 206700413971) (b (a 2 206706181145) (b (k 7 206709851168) g)) 206700413985)) (d (i (a 12 206968325643) (r 52 (k 8 206971471382) true (b (h 1 206976189976) (b (q (a 2 206977762847) (h 1 206980908577) 206977762850) (b (q (a 2 206983005737) (h 2 206986151467) 206983005740) (b (e [] 206988248624) g)))) 206971471409) 206968325681) f) (d (i (a 12 207505197579) (r 57 (k 9 207508343321) false (b (a 10 207514634782) (b (a 6 207517780517) (b (a 2 207521450540) (b (a 4 207525120563) (b (e [103,111,32,111,110] 207528790588) (b (a 11 207533509185) g)))))) 207508343362) 207505197634) f) 206697794114) f) 206160923202) f) 205624052290) (d (p (T (w (j (l .NotEq (r 51 (k 10 207773109264) false (b (a 9 207778352149) (b (a 8 207781497884) g)) 207773109277) (a 12 207786740772) 207773109284)) (w (j (l .NotEq (v (a 9 207790410796) 13 207790410802) (h 0 207797750839) 207790410807)) y)) 207773109303) (d (o (B false 208045739540) 208042069524) f) f 207771536916) (d (o (X (b (l .Eq (q (v (a 9 208312078351) 9 208312078357) (e [108,111,103] 208317845531) 208312078364) (a 11 208323088419) 208312078371) (b (l .Eq (r 48 (k 11 208327282737) false (b (a 9 208332525622) g) 208327282743) (r 55 (k 12 208337244228) false (b (a 10 208342487113) g) 208337244234) 208327282762) g)) 208312078410) 208308408394) f))))))))))))))))
noncomputable def oX:List (Str×D):=[("_law_cell",.val (.ref 702)),("range",.val (.type "range")),("_law_names",.val (.ref 726)),("SmallHost",.val (.ref 679)),("_law_run",.val (.ref 759)),("_law_wrong",.val (.ref 780)),("isinstance",.val (.builtin "isinstance")),("tuple",.val (.type "tuple")),("_law_out",.val (.ref 773)),("_law_passes",.val (.ref 804)),("_law_done",.val (.ref 766)),("_law_look",.val (.ref 745)),("_law_book",.val (.ref 792))]
noncomputable def IQ:Fn:=⟨oX,["script","raw","pairs","number","plans","text","names","size","words","host","book","log","due"],3,[],ei⟩
noncomputable def NC:av:=(d (o (C (b (e [42] 208849474575) (b (e [97] 208852096020) (b (e [63] 208854717465) (b (e [98] 208857338910) (b (e [91,97,35,93] 208859960358) (b (e [35] 208864154667) (b (e [92,125] 208866776114) (b (e [91,49,45,97,93] 208870446139) g)))))))) 208848950332) 208845280316) f)
noncomputable def Mp:Fn:=⟨[],[],0,[],NC⟩
noncomputable def K6:av:=(d (p (j (l .Eq (a 0 209383725068) (e [63] 209388443667) 209383725075)) (d (o (B true 209656355347) 209652685331) f) f 209382152723) (d (p (j (l .Eq (a 0 209920597004) (e [91,97,35,93] 209925315606) 209920597014)) (d (o (l .In (a 1 210193227280) (C (b (e [97] 210196373016) (b (e [35] 210198994461) g)) 210195848734) 210193227294) 210189557278) f) f 209919024670) (d (p (j (l .Eq (a 0 210457468940) (e [91,49,45,97,93] 210462187543) 210457468951)) (d (o (X (b (l .LtE (e [49] 210730099218) (a 1 210733769239) 210730099223) (b (l .LtE (a 1 210736914973) (e [97] 210739536420) 210736914980) g)) 210730099236) 210726429220) f) f 210455896612) (d (o (l .Eq (a 1 210996438028) (q (a 0 210999059477) (Q (h 1 211002729496) 211002205208) 210999059481) 210996438041) 210992768025) f))))
noncomputable def Nm:Fn:=⟨[],["piece","c"],2,[],K6⟩
noncomputable def F9:av:=(d (p (j (l .Eq (a 0 211531212813) (C g 211536455699) 211531212819)) (d (o (l .Eq (a 1 211803843091) (e [] 211808037401) 211803843097) 211800173081) f) f 211529640473) (d (p (j (l .Eq (q (a 0 212068084749) (h 0 212071754767) 212068084752) (e [42] 212074900503) 212068084759)) (d (o (x .any (k 0 212340715026) (b (P (r 61 (k 0 212343336477) true (b (U (a 1 212348579364) (h 1 212352249382) 212352249383 212348579368) (b (U (a 2 212354870830) (a 0 212357492273) 212357492274 212354870835) g)) 212343336500) (a 0 212362735163) (x .range (k 1 212365880900) (b (m .Add (x .len (k 2 212369026632) (b (a 1 212371123789) g) 212369026638) (h 1 212375318098) 212369026642) g) 212365880915) y ["at"] [0,1] [("_law_fits",.val (.ref 828))] ⟨.function,[(".0",.local),("at",.local),("_law_fits",.globalImplicit),("pieces",.free),("text",.free)],false,false,[]⟩ 212342812244) g) 212340715093) 212337045077) f) f 212066512469) (d (o (X (b (l .NotEq (a 1 212607053839) (e [] 212611248149) 212607053845) (b (r 60 (k 3 212614918180) true (b (q (a 0 212620685355) (h 0 212624355373) 212620685358) (b (q (a 1 212626452532) (h 0 212629073974) 212626452535) g)) 212614918200) (b (r 61 (k 4 212633268294) true (b (U (a 0 212638511181) (h 1 212642181199) 212642181200 212638511185) (b (U (a 1 212644802647) (h 1 212647424089) 212647424090 212644802651) g)) 212633268316) g))) 212607053916) 212603383900) f)))
noncomputable def AW:List (Str×D):=[("any",.val (.builtin "any")),("range",.val (.type "range")),("len",.val (.builtin "len")),("_law_takes",.val (.ref 823)),("_law_fits",.val (.ref 828))]
noncomputable def xe:Fn:=⟨AW,["pieces","text"],2,[],F9⟩
noncomputable def Dv:av:=(d (i (a 1 213140255756) (M 213146022929) 213140255761) (d (i (a 2 213408691720) (m .FloorDiv (a 0 213412361745) (h 4 213417604630) 213412361750) 213408691734) (d (G (a 3 213679224841) (x .range (k 0 213681846290) (b (m .Mod (a 0 213684992025) (h 4 213689710621) 213684992029) g) 213681846302) (d (i (a 4 213947660814) (M 213952379411) 213947660819) (d (i (a 5 214216096780) (m .Add (h 1 214219766800) (m .Mod (a 2 214221863959) (h 5 214225533979) 214221863963) 214219766811) 214216096795) (d (i (a 2 214484532748) (m .FloorDiv (a 2 214488202771) (h 5 214492397080) 214488202776) 214484532760) (d (G (a 3 214755065869) (x .range (k 0 214757687318) (b (m .Mod (a 5 214760833051) (h 5 214764503071) 214760833055) g) 214757687328) (d (A (z (a 4 215023501842) .append (b (q (r 59 (k 1 215030841893) true g 215030841895) (m .Mod (a 2 215038181932) (h 8 215041851952) 215038181936) 215030841905) g) 215023501849 215023501874) 215023501874) (d (i (a 2 215291937808) (m .FloorDiv (a 2 215295607831) (h 8 215299802140) 215295607836) 215291937820) f)) 214752969756) (d (A (z (a 1 215558276624) .append (b (O 4 215566665246) g) 215558276631 215558276639) 215558276639) f))))) 213677131295) (d (o (O 1 215828285459) 215824615443) f))))
noncomputable def n5:List (Str×D):=[("range",.val (.type "range")),("_law_pieces",.val (.ref 816))]
noncomputable def IK:Fn:=⟨n5,["number","patterns","rest","_","pieces","many"],1,[],Dv⟩
noncomputable def eU:av:=(d (i (a 3 216361487370) (r 41 (k 0 216366205974) true (b (a 0 216371448861) (b (h 6 216375643168) (b (h 0 216377216035) g))) 216366205988) 216361487396) (d (i (a 4 216629923337) (q (C (b (e [107,101,121] 216634641938) (b (e [118,97,108,117,101] 216638311963) (b (e [107] 216643030560) (b (e [118,97,108] 216645652007) (b (e [] 216649322027) (b (e [107,101,121,115] 216651419187) (b (e [119] 216655613496) g))))))) 216634117689) (m .Mod (a 3 216658234944) (h 7 216662953540) 216658234948) 216634117701) 216629923397) (d (i (a 5 216898359308) (r 62 (k 1 216904126492) true (b (r 41 (k 0 216911466534) true (b (a 0 216916709421) (b (h 7 216920903728) (b (m .Add (h 2 216922476595) (m .Mult (h 4 216924573751) (m .Add (h 1 216927195196) (m .Mult (h 5 216929292352) (m .Add (h 1 216931913797) (m .Mult (h 8 216934010953) (m .Add (h 0 216936632398) (m .Mult (h 8 216938729554) (m .Add (h 0 216941350999) (m .Mult (h 5 216943448155) (h 5 216945545311) 216943448159) 216941351007) 216938729568) 216936632416) 216934010977) 216931913825) 216929292386) 216927195234) 216924573795) 216922476643) g))) 216911466596) g) 216904126565) 216898359397) (d (i (a 6 217166795273) (m .Add (C (b (e [100,105,99,116] 217171513875) (b (e [102,105,108,116,101,114] 217175708189) (b (a 1 217180951074) (b (a 4 217183572521) g)))) 217170989610) (P (z (e [] 217188815408) .join (b (a 0 217193009724) g) 217188815413 217188815421) (a 0 217199301192) (a 5 217204544084) y ["pieces"] [] [] ⟨.function,[(".0",.local),("pieces",.local)],false,false,[]⟩ 217188291157) 217170989653) 217166795349) (d (p (j (l .Eq (m .Mod (m .FloorDiv (a 3 217436804109) (h 7 217442046994) 217436804114) (h 8 217444144150) 217436804118) (h 7 217446765595) 217436804123)) (d (i (a 6 217705764365) (Z (a 6 217709958677) (m .Sub (h 3 217713628696) (m .Mod (m .FloorDiv (a 3 217715725857) (h 56 217720968743) 217715725863) (h 2 217723590187) 217715725867) 217713628715) 217713104427 217709958700) 217705764396) f) f 217435231788) (d (i (a 7 217972103177) (L (j (l .In (a 4 217978918934) (C (b (e [107,101,121] 217984161824) (b (e [107] 217987831845) g)) 217983637542) 217978918950)) (h 0 217976297485) (h 1 217993074733) 217976297517) 217972103213) (d (p (j (l .Lt (x .len (k 2 218242112010) (b (a 6 218244209168) g) 218242112017) (h 4 218248927765) 218242112021)) (d (i (a 8 218511072267) (r 53 (k 3 218514218008) true (b (e [102,105,108,116,101,114,84,121,112,101,32,63,97,114,103,32,46,46,46,63] 218519985199) g) 218514218032) 218511072304) f) (d (p (j (l .NotIn (a 4 218780032526) (C (b (e [107,101,121] 218787372572) (b (e [118,97,108,117,101] 218791042597) (b (e [107] 218795761194) (b (e [118,97,108] 218798382641) g)))) 218786848306) 218780032562)) (d (i (a 9 219047944203) (m .Add (m .Add (e [98,97,100,32,102,105,108,116,101,114,84,121,112,101,32,34] 219051089952) (a 4 219062100008) 219051089960) (e [34,58,32,109,117,115,116,32,98,101,32,107,101,121,44,32,115,99,114,105,112,116,44,32,111,114,32,118,97,108,117,101] 219066294349) 219051089997) 219047944269) (d (i (a 8 219316380171) (r 52 (k 4 219319525910) true (b (h 1 219324244504) (b (a 9 219325817373) (b (u (b (e [84,67,76] 219328963109) (b (e [76,79,79,75,85,80] 219332633135) (b (e [73,78,68,69,88] 219337876024) (b (e [102,105,108,116,101,114,84,121,112,101] 219342594630) (b (a 4 219349934669) g))))) 219328438862) (b (e [] 219354128978) g)))) 219319525971) 219316380243) f)) (d (p (j (x .isinst (k 5 219585340435) (b (a 2 219591107609) (b (k 6 219594777632) g)) 219585340449)) (d (i (a 8 219853252107) (r 52 (k 4 219856397846) true (b (h 1 219861116440) (b (q (a 2 219862689311) (h 1 219865835041) 219862689314) (b (q (a 2 219867932201) (h 2 219871077931) 219867932204) (b (e [] 219873175088) g)))) 219856397873) 219853252145) f) (d (i (a 8 220390124043) (u (b (h 0 220393794064) (b (r 43 (k 7 220395366939) true (b (P (a 0 220401134113) (a 0 220405852714) (a 2 220410047027) (w (j (x .any (k 0 220414765626) (b (P (r 61 (k 0 220417387077) true (b (a 0 220422629961) (b (q (a 1 220425251407) (a 2 220427872853) 220425251414) g)) 220417387095) (a 0 220434164319) (a 1 220437834347) y ["one"] [0,2] [("_law_fits",.val (.ref 828))] ⟨.function,[(".0",.local),("one",.local),("_law_fits",.globalImplicit),("pair",.free),("place",.free)],false,false,[]⟩ 220416862828) g) 220414765677)) y) ["pair"] [5,7] [("any",.val (.builtin "any"))] ⟨.function,[(".0",.local),("pair",.cell),("any",.globalImplicit),("patterns",.free),("place",.free)],false,false,[]⟩ 220400609902) g) 220395367023) g)) 220393269872) 220390124144) f) 219582720624) f) 218777414256) f) 218240543344) (d (o (l .Eq (r 51 (k 8 220660132884) false (b (W 0 (k 9 220665375774) g 220665375776) (b (a 6 220672191527) g)) 220660132904) (a 8 220677434415) 220660132911) 220656462895) f))))))))
noncomputable def jt:List (Str×D):=[("_law_cell",.val (.ref 702)),("_law_patterns",.val (.ref 835)),("len",.val (.builtin "len")),("_law_wrong",.val (.ref 780)),("_law_out",.val (.ref 773)),("isinstance",.val (.builtin "isinstance")),("tuple",.val (.type "tuple")),("_law_dict",.val (.ref 712)),("_law_done",.val (.ref 766)),("SmallHost",.val (.ref 679))]
noncomputable def Er:Fn:=⟨jt,["script","raw","pairs","number","asked","patterns","words","place","due","why"],3,[],eU⟩
noncomputable def oJ:List Str:=["script","raw","pairs"]
noncomputable def zX:av:=(d (i (u (b (a 1 221193334791) (b (a 2 221195956238) g)) 221193334798) (r 44 (k 0 221200150555) true (b (r 41 (k 1 221205917733) true (b (a 0 221211160620) (b (h 0 221215354927) (b (m .Add (h 72 221216927795) (m .Mult (h 80 221219549240) (m .Add (h 0 221222694973) (m .Mult (h 45 221224792130) (m .Add (h 11 221227937864) (m .Mult (h 45 221230559309) (m .Add (h 22 221233705043) (m .Mult (h 45 221236326488) (h 38 221238947933) 221236326493) 221233705053) 221230559326) 221227937886) 221224792159) 221222695007) 221219549280) 221216927840) g))) 221205917793) g) 221200150626) 221193334882) (d (o (X (b (r 58 (k 2 221465440790) true (b (a 0 221471732253) (b (a 1 221475926562) (b (a 2 221478548009) g))) 221465440810) (b (r 63 (k 3 221484315200) true (b (a 0 221493752391) (b (a 1 221497946700) (b (a 2 221500568147) g))) 221484315220) g)) 221465440852) 221461770836) f))
noncomputable def jC:Fn:=⟨[("_law_drawn",.val (.ref 719)),("_law_cell",.val (.ref 702)),("_law_script",.val (.ref 809)),("_law_look_through",.val (.ref 840))],oJ,1,[],zX⟩
noncomputable def gq:av:=(d (A (.init (k 0 4567605777) 0 (b (a 0 4577567263) (b (a 2 4580712998) g)) 4567605786 4567605799) 4567605799) (d (i (v (a 0 4836041740) 0 4836041745) (a 1 4842333208) 4836041752) (d (i (v (a 0 5104477708) 1 5104477714) (a 2 5111293466) 5104477722) (d (i (v (a 0 5372913676) 2 5372913686) (a 3 5381826594) 5372913698) (d (i (v (a 0 5641349644) 3 5641349650) (a 4 5648165402) 5641349658) (d (i (v (a 0 5909785612) 4 5909785616) (a 5 5915552790) 5909785622) (d (i (v (a 0 6178221580) 5 6178221585) (e [] 6184513046) 6178221590) (d (i (v (a 0 6446657548) 6 6446657557) (B false 6455046173) 6446657565) (d (i (v (a 0 6715093516) 7 6715093521) (h 0 6721384981) 6715093525) (d (i (v (a 0 6983529484) 8 6983529490) (C g 6990345239) 6983529495) f))))))))))
noncomputable def Ju:Fn:=⟨[("Exception",.val (.type "Exception"))],["self","code","value","errorcode","level","ret"],6,[.val (.ref 73),.int 0,.int 0],gq⟩
noncomputable def NB:av:=(d (i (v (a 0 128585022988) 21 128585022993) (e [110,111,110,101] 128591314458) 128585023002) (d (i (v (a 0 128853458956) 1 128853458962) (e [] 128860274711) 128853458967) (d (i (v (a 0 129121894924) 22 129121894931) (C g 129129234968) 129121894936) (d (i (v (a 0 129390330892) 23 129390330900) (B false 129398195228) 129390330908) (d (i (v (a 0 129658766860) 24 129658766871) (B false 129668204063) 129658766879) (d (i (v (a 0 129927202828) 25 129927202835) (h 0 129934542871) 129927202839) f))))))
noncomputable def Mk:Fn:=⟨[],["self"],1,[],NB⟩
noncomputable def Lv:av:=(d (i (v (a 0 131269382668) 9 131269382674) (S 1 131276198423) 131269382679) (d (i (v (a 0 131537818636) 10 131537818643) (S 0 131545158680) 131537818648) (d (i (v (a 0 131806254604) 11 131806254610) (a 1 131813070362) 131806254618) (d (i (v (a 0 132074690572) 12 132074690577) (a 2 132080982040) 132074690584) (d (i (v (a 0 132343126540) 13 132343126546) (h 0 132349942294) 132343126550) (d (i (v (a 0 132611562508) 14 132611562514) (h 0 132618378262) 132611562518) (d (i (v (a 0 132879998476) 15 132879998482) (h 0 132886814230) 132879998486) (d (i (v (a 0 133148434444) 16 133148434450) (I 133155250201) 133148434457) (d (i (v (a 0 133416870412) 17 133416870422) (I 133425783325) 133416870429) f)))))))))
noncomputable def Na:Fn:=⟨[],["self","limit","fuel"],3,[.int 40,.none],Lv⟩
noncomputable def MR:av:=(d (p (j (l .NotIn (a 1 134223751183) (v (a 0 134230042651) 9 134230042657) 134223751201)) (d (J (W 999 (k 0 134495857177) (b (m .Add (e [116,104,101,32,104,111,115,116,32,108,97,99,107,115,32,116,104,101,32,116,111,111,108,32] 134500051508) (a 1 134515255867) 134500051515) g) 134495857212) 134492711484) f) f 134222178876) (d (o (q (v (a 0 134762720275) 9 134762720281) (a 1 134768487454) 134762720287) 134759050271) f))
noncomputable def K0:Fn:=⟨[("Misused",.val (.ref 51))],["self","name"],2,[],MR⟩
noncomputable def nY:av:=(d (p (j (l .GtE (v (a 0 137713418767) 13 137713418773) (v (a 0 137720758813) 11 137720758819) 137713418787)) (d (J (r 0 (k 0 137985524759) true (b (e [116,111,111,32,109,97,110,121,32,110,101,115,116,101,100,32,101,118,97,108,117,97,116,105,111,110,115,32,40,105,110,102,105,110,105,116,101,32,108,111,111,112,63,41] 137988670534) (b (u (b (e [84,67,76] 138014360654) (b (e [76,73,77,73,84] 138018030679) (b (e [83,84,65,67,75] 138022749280) g))) 138013836385) g)) 137985524834) 137982379106) f) f 137711846498) (d (i (a 2 138248717838) (K (a 0 138253436437) 68 (b (e [114,117,110] 138258679328) g) 138253436442 138253436449) 138248717857) (d (.jw (a 0 138517153804) 13 .Add (h 1 138524493847) 138517153810 138517153815) (d (.iJ (d (o (r 50 (a 2 139059792921) false (b (a 0 139063462942) (b (a 1 139066608678) g)) 139059792935) 139056122919) f) (d (.jw (a 0 139592994832) 13 .Sub (h 1 139600334875) 139592994838 139592994843) f) 138785591323) f))))
noncomputable def Fw:List (Str×D):=[("error",.val (.ref 139))]
noncomputable def EJ:Fn:=⟨Fw,["self","script","runner"],2,[],nY⟩
noncomputable def LD:av:=(d (A (.init (k 0 154623311884) 68 (b (a 0 154630651930) (b (a 1 154633797665) (b (a 2 154637467687) g))) 154623311893 154623311912) 154623311912) (d (i (v (a 0 154891747852) 18 154891747857) (S 1 154898039318) 154891747862) (d (i (v (a 0 155160183820) 19 155160183829) (S 0 155168572442) 155160183834) (d (i (v (a 0 155428619788) 20 155428619795) (S 0 155435959832) 155428619800) f))))
noncomputable def MW:Fn:=⟨[("Host",.val (.ref 523))],["self","limit","fuel"],3,[.int 40,.none],LD⟩
noncomputable def Np:av:=(d (o (X (b (l .In (a 1 156237597715) (v (a 0 156241792027) 18 156241792032) 156237597728) (b (l .NotEq (v (q (v (a 0 156249132073) 18 156249132078) (a 1 156254374963) 156249132084) 21 156249132089) (e [110,111,110,101] 156261715011) 156249132099) g)) 156237597763) 156233927747) f)
noncomputable def M6:Fn:=⟨[],["self","name"],2,[],Np⟩
noncomputable def Nw:av:=(d (o (r 37 (k 0 157042905621) false (b (v (a 0 157046575642) 18 157046575647) (b (a 1 157052342821) g)) 157042905638) 157039235622) f)
noncomputable def MB:Fn:=⟨[("var_in",.val (.ref 541))],["self","name"],2,[],Nw⟩
noncomputable def NN:av:=(d (p (j (l .Eq (v (a 1 157846116366) 21 157846116371) (e [110,111,110,101] 157852407837) 157846116381)) (d (J (r 999 (k 0 158118222365) true (b (e [114,101,97,100] 158124513828) (b (a 2 158128708138) g)) 158118222379) 158115076651) f) f 157844544043) (d (o (v (a 1 158385085458) 1 158385085464) 158381415448) f))
noncomputable def Mr:Fn:=⟨[("no_variable",.val (.ref 534))],["self","var","name"],3,[],NN⟩
noncomputable def Nn:av:=(d (o (r 38 (k 0 159190393368) false (b (a 1 159195636252) (b (e [115,99,97,108,97,114] 159198257702) (b (a 3 159203500589) g))) 159190393390) 159186723374) f)
noncomputable def Lo:Fn:=⟨[("put_value",.val (.ref 548))],["self","var","name","value"],4,[],Nn⟩
noncomputable def Ly:av:=(d (o (K (a 0 159995701267) 73 (b (K (a 0 160003041313) 72 (b (a 1 160008808492) g) 160003041319 160003041325) (b (a 1 160012478515) g)) 159995701276 159995701300) 159992031284) f)
noncomputable def LR:Fn:=⟨[],["self","name"],2,[],Ly⟩
noncomputable def Mh:av:=(d (o (K (a 0 160801009171) 74 (b (K (a 0 160808873506) 72 (b (a 1 160814640685) g) 160808873512 160808873518) (b (a 1 160818310708) (b (a 2 160821456443) g))) 160801009181 160801009212) 160797339196) f)
noncomputable def M0:Fn:=⟨[],["self","name","value"],3,[],Mh⟩
noncomputable def KN:av:=(d (p (Y (j (K (a 0 161606317075) 71 (b (a 1 161611035676) g) 161606317079 161606317085)) 161604219933) (d (J (r 999 (k 0 161876325917) true (b (e [117,110,115,101,116] 161882617381) (b (a 1 161887335979) g)) 161876325932) 161873180204) f) f 161602647596) (d (A (r 38 (k 1 162139518993) false (b (q (v (a 0 162144761878) 18 162144761883) (a 1 162150004768) 162144761889) (b (e [110,111,110,101] 162153674793) (b (e [] 162157869101) g))) 162139519022) 162139519022) f))
end
noncomputable def NR:Fn:=⟨[("no_variable",.val (.ref 534)),("put_value",.val (.ref 548))],["self","name"],2,[],KN⟩
noncomputable def TT:Tab:=⟨[],[s "error",s "wrong_args",s "listing",s "pick",s "note_row",s "is_blank",s "digit",s "digits_value",s "base_of",s "whole_of",s "bool_of",s "need_bool",s "hex_sign",s "octal_sign",s "backslash",s "check_behind",s "braced_element",s "quoted_element",s "bare_element",s "find_element",s "split_list",s "mode_of",s "escaped",s "quote",s "join_list",s "dict_fault",s "dict_of",s "text_of_dict",s "in_set",s "behind_one",s "put_places",s "fits",s "two_names",s "run_pair",s "filter_script",s "fits_one",s "dict_filter",s "var_in",s "put_value",s "_law_atoms",s "_law_truths",s "_law_cell",s "_law_put",s "_law_dict",s "_law_drawn",s "_law_names",s "_law_pass",s "_law_watched",s "_law_look",s "_law_write",s "_law_run",s "_law_done",s "_law_out",s "_law_wrong",s "_law_noted",s "_law_book",s "_law_change",s "_law_passes",s "_law_script",s "_law_pieces",s "_law_takes",s "_law_fits",s "_law_patterns",s "_law_look_through",s "law",s "__init__",s "__init__",s "__init__",s "tool",s "run",s "__init__",s "has",s "place",s "read_var",s "write_var",s "read",s "write",s "drop"],[139,146,153,160,174,195,202,209,216,223,230,237,244,251,258,265,272,279,286,293,300,307,314,322,329,336,343,350,357,364,371,386,393,400,407,414,421,541,548,688,695,702,707,712,719,726,733,740,745,752,759,766,773,780,787,792,799,804,809,816,823,828,835,840,847,81,435,457,464,485,577,584,591,598,605,612,619,626],[(679,false,70),(84,true,65),(438,false,66)]⟩
noncomputable def FL:List Fn:=[f0,f1,f2,f3,f4,f5,f6,f7,f8,f9,MD,NF,NQ,Lh,KL,NA,Nt,LW,KY,MO,Jp,ML,Nl,Nr,AZ,MT,AQ,Ah,Lg,LK,IL,x7,ME,Al,sj,xX,uM,Nh,Ky,M8,NI,IW,JE,A3,uJ,Ap,JD,M1,LH,NH,ER,Af,NO,LU,M4,K1,Jh,wj,IQ,Mp,Nm,xe,IK,Er,jC,Ju,Mk,Na,K0,EJ,MW,M6,MB,Mr,Lo,LR,M0,NR]
noncomputable def FF(k:Nat):Option Fn:=FL[k]?
noncomputable def NW:Stmt->List Stmt
 | .FunctionDef _ _ b _ _ _ _ _ _ _=>b
 |_=>[]
end Mine
end
section
namespace Mine
def Res.Q{α:Type}(r:Res α):α->aq->ag->Prop:=fun a ρ Γ=>r = .ok a ρ Γ
noncomputable def Res.X{α:Type}(r:Res α):PE:=fun n ρ Γ=>r = .ex n ρ Γ
def Sd(c:Cx){α β:Type}(R:aF->aX->β->α->Prop)(t:Su α)(r:Res β)(ρ:aq)(Γ:ag):Prop:=r≠ .no->WT c R t r.Q r.X ρ Γ
variable{c:Cx}{ρ:aq}{Γ:ag}{T:Tab}{O:aL}{m:Md}
section
theorem Sd.run{α β:Type}{R:aF->aX->β->α->Prop}{t:Su α}{r:Res β}(h:Sd c R t r ρ Γ)(hn:r≠ .no){τ θ s}(S:SR c τ θ ρ Γ s):N5 (M' PG c.w) c.A t (QP c τ θ R r.Q) (XP c τ θ r.X) s:=h hn τ θ s S
theorem Sd.of{α β:Type}{R:aF->aX->β->α->Prop}{t:Su α}{r:Res β}(h : ∀τ θ s,r≠ .no->SR c τ θ ρ Γ s->N5 (M' PG c.w) c.A t (QP c τ θ R r.Q) (XP c τ θ r.X) s):Sd c R t r ρ Γ:=fun hn τ θ s S=>h τ θ s hn S
theorem iR{α β:Type}{r:Res α}{k:α->aq->ag->Res β}(h:r.bind k≠ .no):r≠ .no:=by rintro rfl;exact h rfl
theorem uO {α β Xg:Type} {R:aF->aX->β->α->Prop} {t:Su α} {r:Res β} {r0:Res Xg} {k:β->aq->ag->Res Xg} {τ OJ θ OQ s} {P:α->Shared->Prop}
  (h:N5 (M' PG c.w) c.A t (QP c τ θ R r.Q) (XP c τ θ r.X) s) (hn:r.bind k≠ .no) (l:Lq OJ OQ τ θ)
  (K : ∀v s' Ow OT b O3 Γ',Lq OJ OQ Ow OT->Lq τ θ Ow OT->R Ow OT b v->SR c Ow OT O3 Γ' s'->k b O3 Γ'≠ .no->r0=k b O3 Γ'->P v s') (e0:r0=r.bind k) :
  N5 (M' PG c.w) c.A t P (XP c OJ OQ r0.X) s:=by
 refine Ob h (fun v s' H => ?_) fun e s' hz=>by obtain⟨Ow,OT,n,a,O3,Γ',l1,l2,e1,e2,S1,ix,x⟩:=hz;exact⟨Ow,OT,n,a,O3,Γ',l.l.trans l1,l.k.trans l2,e1,e2,S1,ix,e0.trans (congrArg (·.bind k) x)⟩
 obtain⟨Ow,OT,b,O3,Γ',l1,l2,r1,S1,q⟩:=H;have e:r.bind k=k b O3 Γ':=congrArg (·.bind k) q;exact K v s' Ow OT b O3 Γ' (l.trans ⟨l1,l2⟩) ⟨l1,l2⟩ r1 S1 (e▸hn) (e0.trans e)
theorem Sd.go {α β Xg:Type} {R:aF->aX->β->α->Prop} {t:Su α} {r:Res β} {r0:Res Xg} {k:β->aq->ag->Res Xg} {τ OJ θ OQ s} {P:α->Shared->Prop}
  (h:Sd c R t r ρ Γ) (hn:r.bind k≠ .no) (S:SR c τ θ ρ Γ s) (l:Lq OJ OQ τ θ)
  (K : ∀v s' Ow OT b O3 Γ',Lq OJ OQ Ow OT->Lq τ θ Ow OT->R Ow OT b v->SR c Ow OT O3 Γ' s'->k b O3 Γ'≠ .no->r0=k b O3 Γ'->P v s') (e0:r0=r.bind k:=by rfl) :
  N5 (M' PG c.w) c.A t P (XP c OJ OQ r0.X) s:=uO (h.run (iR hn) S) hn l K e0
theorem QP.fin{α β:Type}{R:aF->aX->β->α->Prop}{r:Res β}{τ OJ θ OQ s}{v:α}{b:β}(l:Lq OJ OQ τ θ)(r1:R τ θ b v)(S:SR c τ θ ρ Γ s)(e:r = .ok b ρ Γ:=by rfl):QP c OJ OQ R r.Q v s:=⟨τ,θ,b,ρ,Γ,l.l,l.k,r1,S,e⟩
theorem Sd.last{α β:Type}{R:aF->aX->β->α->Prop}{t:Su α}{r r':Res β}{τ OJ θ OQ s}(h:Sd c R t r ρ Γ)(hn:r≠ .no)(S:SR c τ θ ρ Γ s)(l:Lq OJ OQ τ θ)(e:r'=r):N5 (M' PG c.w) c.A t (QP c OJ OQ R r'.Q) (XP c OJ OQ r'.X) s:=by
 subst e;exact lift l (h.run hn S)
theorem SR.tok{τ θ s}(S:SR c τ θ ρ Γ s)(t:Nat):SR c τ θ ρ Γ {s with toks:=t}:=⟨S.wf,S.rl,S.own,S.base,S.gens,S.os⟩
theorem SR.heap{τ θ s h}(S:SR c τ θ ρ Γ s)(t:Nat)(k : ∀σ,OK c σ τ θ ρ Γ s.heap->OK c σ τ θ ρ Γ h):SR c τ θ ρ Γ {s with heap:=h,toks:=t}:=⟨S.wf,S.rl,let ⟨σ,O⟩:=S.own;⟨σ,k σ O⟩,S.base,S.gens,S.os⟩
theorem SR.keep{τ θ s}(S:SR c τ θ ρ Γ s): ∀b o,c.h0.get? b=some o->s.heap.get? b=some o:=fun b o e=>by
 obtain⟨σ,O⟩:=S.own;exact O.at_ b _ ((O.bp b _).mp (S.base b o e))
theorem SR.K{τ θ s}(S:SR c τ θ ρ Γ s):(KK c.w.params).In s.heap:=S.wf.base.K.keeps S.keep
abbrev SE(c:Cx)(T:Tab)(O:aL)(m:Md)(e:Ex):Prop := ∀ρ Γ,Sd c RV (Q7 (e.back T c.ns) c.env) (e.ev O m T ρ Γ) ρ Γ
abbrev iZ(c:Cx)(T:Tab)(O:aL)(m:Md)(e:Te):Prop := ∀ρ Γ,Sd c RB (Tc (e.back T c.ns) c.env (Q7 (e.back T c.ns) c.env)) (e.ev O m T ρ Γ) ρ Γ
theorem B6{p}:SE c T O m (.none p):=fun ρ Γ => .of fun τ θ s hn S=>J' (.fin (.refl _ _) (show RV τ θ (.d .none) _ from rfl) S rfl)
theorem Bl{b p}:SE c T O m (.bool b p):=fun ρ Γ => .of fun τ θ s hn S=>J' (.fin (.refl _ _) (show RV τ θ (.d (.bool b)) _ from rfl) S rfl)
theorem F0{i p}:SE c T O m (.int i p):=fun ρ Γ => .of fun τ θ s hn S=>wpAny_Constant_int (.fin (.refl _ _) (show RV τ θ (.d (.int i)) _ from⟨_,rfl⟩) (S.tok _) rfl)
theorem DT{x p}:SE c T O m (.str x p):=fun ρ Γ => .of fun τ θ s hn S=>U5 (.fin (.refl _ _) (show RV τ θ (.d (.str x)) _ from⟨_,rfl⟩) (S.tok _) rfl)
theorem iS{ns:List Str}{i:Nat}{x:Str}(h:ns[i]?=some x):ns.getD i ""=x:=by simp[O8,h]
theorem rG{τ θ s}{i:Nat}{v:V}{x:Str}{P:Value->Shared->Prop}{E:Value->Shared->Prop}(S:SR c τ θ ρ Γ s)(hx:c.ns[i]?=some x)(hv:ρ[i]?=some (some v))(k : ∀u,VV τ θ v u->P u s):N5 (M' PG c.w) c.A (loadName c.env x) P E s:=by
 obtain⟨σ,O⟩:=S.own;have hm:x∈c.ns:=Og hx;rcases S.wf.vars _ hm with hk | hk | hk
 ·obtain⟨mv,h3⟩:=O.at_ _ _ O.fr
  obtain⟨u,h5,h6⟩:=O.loc mv h3 i x v hx hv hk;exact Vo S.wf.kind hk h3 h5 (k u h6)
 ·obtain⟨a,h1,h2,h3⟩:=O.cell i x hx (by rw[hk];simp)
  obtain⟨u,h4,h5⟩:=h3 v hv;exact VO S.wf.kind hk h1 h4 (k u h5)
 ·obtain⟨a,h1,h2,h3⟩:=O.cell i x hx (by rw[hk];simp)
  obtain⟨u,h4,h5⟩:=h3 v hv;exact VN S.wf.kind hk h1 h4 (k u h5) (S.wf.cX _ _ hk)
theorem tR{i:Nat}{x:Str}(W:c.WF)(hx:c.ns[i]?=some x): ∃k,c.env.kindOf x=some k:=by
 rcases W.vars _ (Og hx) with hk | hk | hk<;>exact⟨_,hk⟩
theorem vW{τ θ s}(S:SR c τ θ ρ Γ s){i:Nat}{o:Option V}(h:ρ[i]?=some o): ∃x,c.ns[i]?=some x:=by
 have:i<c.ns.length:=by rw[<-S.rl];exact(N3.mp h).1
 exact⟨_,N8 this⟩
theorem Ex.sI{i p}{x:Str}{ns:List Str}(hx:ns[i]?=some x):(Ex.var i p).back T ns = .Name x (aK p):=congrArg (fun x=>PySem.Expr.Name x (aK p)) (iS hx)
theorem Res.uL{α:Type}{a b:α}{O3:aq}{Γ':ag}(h:Res.ok a ρ Γ = .ok b O3 Γ'):a=b/\ρ=O3/\Γ=Γ':=by cases h;exact⟨rfl,rfl,rfl⟩
theorem Res.LL{α:Type}{a b:Nat}{O3:aq}{Γ':ag}(h:Res.ex (α:=α) a ρ Γ = .ex b O3 Γ'):a=b/\ρ=O3/\Γ=Γ':=by cases h;exact⟨rfl,rfl,rfl⟩
theorem bt{α β:Type}{o:Option α}{k:α->Res β}{r0:Res β}{P:Prop}(n:Res.aT o k≠ .no)(e:r0=Res.aT o k)(K : ∀a,o=some a->k a≠ .no->r0=k a->P):P:=by
 cases o with
 |none=>exact absurd rfl n
 |some a=>exact K a rfl n e
theorem eE{β:Type}{b:Bool}{r r0:Res β}{P:Prop}(n:cond b r .no≠ .no)(e:r0=cond b r .no)(K:b=true->r≠ .no->r0=r->P):P:=by
 cases b with
 |false=>exact absurd rfl n
 |true=>exact K rfl n e
theorem ig{α:Type}{r0:Res α}{o:Option α}(n:Res.opt ρ Γ o≠ .no)(e:r0=Res.opt ρ Γ o): ∃a,o=some a/\r0 = .ok a ρ Γ:=by
 cases o with
 |none=>exact absurd rfl n
 |some a=>exact⟨a,rfl,e⟩
theorem jk{α:Type}{o:Option (Option α)}{a:α}(h:o.join=some a):o=some (some a):=by
 cases o with
 |none=>exact aE h
 |some b=>exact congrArg some h
theorem GK{i p}:SE c T O m (.var i p):=fun ρ Γ => .of fun τ θ s hn S=>by
 obtain⟨v,hv,e⟩:=ig hn rfl;obtain⟨x,hx⟩:=vW S (jk hv);obtain⟨k,hk⟩:=tR S.wf hx;rw[Ex.sI hx];exact wpAny_Name (rG S hx (jk hv) fun u r => .fin (.refl _ _) (show RV τ θ v u from r) S e) (S.wf.eL _ _ hk)
def GV(K:U3)(x:Str)(v:Value):Prop:=nsIn K mainGlobals x=some (some v)\/(nsIn K mainGlobals x=some none/\RT x=some v/\x≠"__name__")
theorem kN{τ θ s x v}{P:Value->Shared->Prop}{E:Value->Shared->Prop}(S:SR c τ θ ρ Γ s)(hg:GV (KK c.w.params) x v)(hk:c.env.kindOf x=some .globalImplicit)(h:P v s):N5 (M' PG c.w) c.A (Q7 (.Name x p) c.env) P E s:=by
 obtain⟨mg,mb,t1,t2,t3,t4⟩:=S.wf.base.T;refine Name_function_global S.wf.kind hk ?_ (S.wf.eL _ _ hk)
 rcases hg with g | ⟨g,b,n⟩
 ·exact loadGlobal_global (by rw[S.wf.globals];exact t1.keeps S.keep) (mg_of S.wf.base.K t1 g) h
 ·exact loadGlobal_builtin (by rw[S.wf.globals];exact t1.keeps S.keep) (mg_none_of S.wf.base.K t1 g) (by rw[S.wf.builtins];exact t2.keeps S.keep) ((t4 x n).trans b) h
end
section
theorem dP(h:Po):h.get? h.objs.size=none:=by simp[TL]
theorem cA{h:Po}(o:Obj): ∀b x,h.get? b=some x->(h.push o).get? b=some x:=fun b x e=>Pb _ e
noncomputable def hz:Po:=⟨#[],{}⟩
noncomputable def vk(h:Po)(L:Addr):List (Addr×Obj):=(OX h.objs.size).filterMap fun a=>if a=L then none else(h.get? a).map fun o=>(a,o)
theorem l0(a:Addr):hz.get? a=none:=by simp[TL,hz]
theorem yv{h:Po}{L a:Addr}{o:Obj}(e:h.get? a=some o)(ha:a≠L):(a,o)∈vk h L:=by
 refine R6.mpr ⟨a,P0.mpr (PC e),?_⟩
 simp[ha,e]
set_option tactic.hygienic true in
theorem qp(h:Po)(L:Addr):News hz L h (vk h L):=fun p hp=>by
 obtain⟨a,_,e⟩:=R6.mp hp;split at e
 ·injection e
 ·rename_i ha
  cases q:h.get? a with
  |none=>rw[q] at e;injection e
  |some o=>rw[q] at e;injection e with e;subst e;exact⟨q,ha,l0 a⟩
theorem OK.Jm{σ τ θ h}(O:OK c σ τ θ ρ Γ h): ∃mv,Fr hz c.env.locals h mv:=by
 obtain⟨mv,h1⟩:=O.at_ _ _ O.fr;exact⟨mv,h1,(fun b o e=>by injection (l0 ..).symm.trans e),RW _⟩
theorem OK.ad{σ τ θ h h' mv more}(O:OK c σ τ θ ρ Γ h)(F:Fr hz c.env.locals h mv)(F':Fr hz c.env.locals h' mv)(N':News hz c.env.locals h' (more++vk h c.env.locals)):OK c σ τ θ ρ Γ h':=
 O.grow (fun b o hb e=>(N' _ (List.mem_append_right _ (yv e hb))).1) fun mv' hm=>by rw[fq hm F.ns];exact F'.ns
def DP(c:Cx)(τ:aF)(θ:aX)(ρ:aq)(Γ:ag)(d:D):Value->Shared->Prop:=fun w s' => ∃Ow,Le τ Ow/\VR Ow d w/\SR c Ow θ ρ Γ s'
theorem DP.fin{τ OJ θ OQ d w s}{r:Res V}(h:DP c τ θ ρ Γ d w s)(l:Lq OJ OQ τ θ)(e:r = .ok (.d d) ρ Γ):QP c OJ OQ RV r.Q w s:=by
 obtain⟨Ow,l',r1,S⟩:=h;exact⟨Ow,θ,.d d,ρ,Γ,l.l.trans l',l.k,r1,S,e⟩
theorem DP.here{τ θ d w s}(r:VR τ d w)(S:SR c τ θ ρ Γ s):DP c τ θ ρ Γ d w s:=⟨τ,.refl _,r,S⟩
abbrev bh:Value->Shared->Prop:=fun _ _=>False
theorem fA{α:Type}{t:Su α}{P:α->Shared->Prop}{E:Value->Shared->Prop}{s w A}(h:N5 (M' PG w) A t P bh s):N5 (M' PG w) A t P E s:=Ob h (fun _ _ x=>x) fun _ _ x=>x.elim
theorem SR.kG{τ θ s}{o:Obj}{p:Pt}(S:SR c τ θ ρ Γ s)(t:Nat)(H : ∀(σ:Addr->Option Own) Ow,Le τ Ow->At σ Ow θ c.w (s.heap.push o) s.heap.objs.size (.bp p)):
  SR c (cV τ s.heap.objs.size p) θ ρ Γ {s with heap:=s.heap.push o,toks:=t}/\Le τ (cV τ s.heap.objs.size p):=by
 obtain⟨σ,O⟩:=S.own;have le:Le τ (cV τ s.heap.objs.size p):=fun b q e=>by
  have:b≠s.heap.objs.size:=by
   rintro rfl;obtain⟨x,hx⟩:=O.there ((O.bp _ q).mp e);injection (dP ..).symm.trans hx
  simp[cV,this,e]
 obtain⟨O',l⟩:=O.kG S.wf (p:=p) (Γ':=Γ) (.inl (O.fresh (dP _))) (cA o) rfl (fun i m e=>⟨e,fun f=>by
  obtain⟨x,hx,_⟩:=O.eo _ _ f;obtain⟨y,hy⟩:=O.there hx;injection (dP ..).symm.trans hy⟩) (H _ _ le)
 exact⟨⟨S.wf,S.rl,⟨_,O'⟩,fun a o e=>l _ _ (S.base a o e),S.gens,S.os⟩,l⟩
theorem SR.JG {τ θ s h' mv} {o:Obj} {p:Pt} (S:SR c τ θ ρ Γ s) (t:Nat) (F:Fr hz c.env.locals s.heap mv) (F':Fr hz c.env.locals h' mv) (N':News hz c.env.locals h' ((s.heap.objs.size,o)::vk s.heap c.env.locals))
  (H : ∀(σ:Addr->Option Own) Ow,Le τ Ow->h'.get? s.heap.objs.size=some o->At σ Ow θ c.w h' s.heap.objs.size (.bp p)) :
  SR c (cV τ s.heap.objs.size p) θ ρ Γ {s with heap:=h',toks:=t}/\Le τ (cV τ s.heap.objs.size p):=by
 obtain⟨σ,O⟩:=S.own;have fr:=O.fresh (dP _);have le:Le τ (cV τ s.heap.objs.size p):=fun b q e=>by
  have:b≠s.heap.objs.size:=by
   rintro rfl;rw[(O.bp _ q).mp e] at fr;injection fr
  simp[cV,this,e]
 obtain⟨O',l⟩:=(O.ad (more:=[_]) F F' N').kG S.wf (p:=p) (Γ':=Γ) (.inl fr) (fun _ _ e=>e) rfl (fun i m e=>⟨e,fun f=>by
  obtain⟨x,hx,_⟩:=O.eo _ _ f;injection fr.symm.trans hx⟩) (H _ _ le (N' _ (.head _)).1)
 exact⟨⟨S.wf,S.rl,⟨_,O'⟩,fun a o e=>l _ _ (S.base a o e),S.gens,S.os⟩,l⟩
theorem SR.rV{τ θ s}{o:Obj}{m:Mu}(S:SR c τ θ ρ Γ s)(t:Nat)(H : ∀σ:Addr->Option Own,At σ τ (θ++[s.heap.objs.size]) c.w (s.heap.push o) s.heap.objs.size (.mu m)):
  SR c τ (θ++[s.heap.objs.size]) ρ (Γ++[some m]) {s with heap:=s.heap.push o,toks:=t}:=by
 obtain⟨σ,O⟩:=S.own;exact⟨S.wf,S.rl,⟨_,O.Dz (dP _) (cA o) (H _)⟩,S.base,S.gens,S.os⟩
theorem SR.th{τ θ s}(S:SR c τ θ ρ Γ s):θ.length=Γ.length:=let ⟨_,O⟩:=S.own;O.len.eq
theorem beq_iff{a b:Nat}:I' a b=true↔a=b:=⟨N2,fun h=>h▸OZ a⟩
theorem lW(a b:Int):gw a b=true↔a=b:=by
 cases a with
 |ofNat a=>cases b with
  |ofNat b=>exact beq_iff.trans ⟨congrArg _,US⟩
  |negSucc b=>exact⟨fun h=>H' h,fun h=>VX h⟩
 |negSucc a=>cases b with
  |ofNat b=>exact⟨fun h=>H' h,fun h=>VX h⟩
  |negSucc b=>exact beq_iff.trans ⟨congrArg _,Yi⟩
theorem CP(a b:Int):(a==b)=gw a b:=by
 rw[Pz,lW];simp
theorem fD : ∀a b:Tx,ao a b=true↔a=b
 | [],[]=>by simp[oP,og,oq,lE]
 | [],_::_=>by simp[oP,og,oq,lE]
 |_::_,[]=>by simp[oP,og,oq,lE]
 |a::x,b::y=>by
  have:=fD x y;rw[lE];cases h:I' a b with
  |true=>simp[N2 h,this]
  |false=>simp[PM h]
theorem CA(a b:Int):mV a b=true↔a<=b:=by
 cases a with
 |ofNat a=>cases b with
  |ofNat b=>exact(iff_of_eq O4).trans P8.symm
  |negSucc b=>exact⟨fun h=>H' h,fun h=>absurd h (Tq.mpr (Vb (UT b) (O9 a)))⟩
 |negSucc a=>cases b with
  |ofNat b=>exact iff_of_true rfl (Sq (Int.negSucc_le_zero a) (O9 b))
  |negSucc b=>exact(iff_of_eq O4).trans (Nat.succ_le_succ_iff.symm.trans (P8.symm.trans (Int.neg_le_neg_iff (a:=OO (a+1)) (b:=OO (b+1))).symm))
theorem FN(a b:Tx):(aP a==aP b)=ao a b:=by
 rw[Pz,fD,beq_iff_eq];exact⟨mx,fun e=>by rw[e]⟩
theorem sizeLine_eq:Qv=vt:=by decide
theorem oH(a b:Tx):aP a++aP b=aP (a++b):=by
 apply Str.ext';simp[Str.cps_append]
theorem bM(a:Tx):(aP a).length=a.length:=by simp[Str.length]
theorem cN{n:Nat}(h:ay n=true):n<=Qv:=by rw[sizeLine_eq];exact N9 h
theorem SR.fY{τ θ s a l}(S:SR c τ θ ρ Γ s)(h:τ a=some (.tup l)): ∃vs,UL s.heap a vs/\bz τ l vs.toList:=by
 obtain⟨σ,O⟩:=S.own;exact O.at_ _ _ ((O.bp _ _).mp h)
theorem SR.eY{τ θ s a l}(S:SR c τ θ ρ Γ s)(h : ∃pin,τ a=some (.lst l pin)): ∃vs,s.heap.IsList a vs/\bz τ l vs.toList:=by
 obtain⟨σ,O⟩:=S.own;obtain⟨pin,h⟩:=h;exact(O.at_ _ _ ((O.bp _ _).mp h)).1
theorem cp{a b:Nat}(h:OI a b=true):a<b:=N9 h
theorem yg(h:Po)(items:Array Value):(h.push {cls := .type "list",data := .seq items}).IsList h.objs.size items:=⟨_,Pw _ rfl,rfl,_,rfl⟩
theorem xU{τ θ s}{l:List D}{vs:List Value}(S:SR c τ θ ρ Γ s)(r:bz τ l vs)(t:Nat):DP c τ θ ρ Γ (.lst l) (.ref s.heap.objs.size) {s with heap:=s.heap.push {cls := .type "list",data := .seq vs.toArray},toks:=t}:=by
 obtain⟨S',l'⟩:=S.kG (p := .lst l none) t fun σ Ow le=>⟨⟨vs.toArray,yg _ _,by simpa using r.mono le⟩,fun x e=>by injection e⟩
 exact⟨_,l',⟨_,rfl,none,by simp[cV]⟩,S'⟩
theorem w6{τ θ s}{l:List D}{vs:List Value}(S:SR c τ θ ρ Γ s)(r:bz τ l vs)(t:Nat):DP c τ θ ρ Γ (.tup l) (.ref s.heap.objs.size) {s with heap:=s.heap.push {cls := .type "tuple",data := .seq vs.toArray},toks:=t}:=by
 obtain⟨S',l'⟩:=S.kG (p := .tup l) t fun σ Ow le=>⟨vs.toArray,IsTup.new _ _,by simpa using r.mono le⟩
 exact⟨_,l',⟨_,rfl,by simp[cV]⟩,S'⟩
theorem cB{α:Type}{b:Bool}{o:Option α}{y:α}(h:cond b o none=some y):b=true/\o=some y:=by
 cases b with
 |false=>exact aE h
 |true=>exact⟨rfl,h⟩
theorem gN{i:Int}{n}(h:pos? i=some n):i = .ofNat (n+1):=by
 cases i with
 |ofNat y=>cases y with
  |zero=>exact aE h
  |succ k=>exact congrArg (fun k=>OO (k+1)) (j' h)
 |_=>exact aE h
theorem kf{op:Pq}(h:isAdd op=true):op = .Add:=by
 cases op with
 |Add=>rfl
 |_=>exact H' h
theorem GA{op:Pq}{a b:Int}{t t':XA}{r:D}{τ θ s}(e:Fe op a b=some r)(S:SR c τ θ ρ Γ s):N5 (M' PG c.w) c.A (T4 op (.int a t) (.int b t')) (DP c τ θ ρ Γ r) bh s:=by
 have fin : ∀{i:Int} {t n},DP c τ θ ρ Γ (.int i) (.int i t) {s with toks:=n} := .here (d := .int _) ⟨_,rfl⟩ (S.tok _)
 cases op with
 |Add=>injection e with e;subst e;exact XS fin
 |Sub=>injection e with e;subst e;exact XD fin
 |Mult=>
  obtain⟨k,hk,e⟩:=ai e;obtain⟨q,rfl⟩:=bF e;obtain rfl:=gr hk;exact XF fin (IntMulOk.of_right (PySem.intBits_le_64 (Vb (by decide) (O9 k)) (Xf (Qo.mpr (cp q)) (by decide))))
 |FloorDiv=>
  obtain⟨k,hk,e⟩:=ai e;obtain⟨q,rfl⟩:=bF e;obtain rfl:=gN hk;exact XQ (fun h=>nomatch h) fin (.inl (PyProof.noPylong_small (Nat.succ_lt_succ (cp q))))
 |Mod=>
  obtain⟨k,hk,e⟩:=ai e;obtain⟨q,rfl⟩:=bF e;obtain rfl:=gN hk;exact XG (fun h=>nomatch h) fin
 |_=>exact aE e
theorem Bp{a b:Tx}{t t':XA}{τ θ s}(q:ay (a.length+b.length)=true)(S:SR c τ θ ρ Γ s):N5 (M' PG c.w) c.A (T4 .Add (.str (aP a) t) (.str (aP b) t')) (DP c τ θ ρ Γ (.str (a++b))) bh s:=by
 refine XR (fun t' tk => .here (d := .str _) ⟨t',?_⟩ (S.tok _)) ?_
 ·rw[oH]
 ·rw[bM,bM];exact cN q
theorem zy{x y:List D}{u v:Value}{τ θ s}(q:ay (x.length+y.length)=true)(S:SR c τ θ ρ Γ s)(ha:VR τ (.lst x) u)(hb:VR τ (.lst y) v):N5 (M' PG c.w) c.A (T4 .Add u v) (DP c τ θ ρ Γ (.lst (x++y))) bh s:=by
 obtain⟨a,rfl,ha⟩:=ha;obtain⟨b,rfl,hb⟩:=hb;obtain⟨vs,h1,h2⟩:=S.eY ha;obtain⟨ws,h3,h4⟩:=S.eY hb;obtain⟨σ,O⟩:=S.own;obtain⟨mv,F⟩:=O.Jm;have hl:vs.toList.length+ws.toList.length=x.length+y.length:=by rw[<-h2.length,<-h4.length]
 refine add_lists (vs:=vs.toList) (ws:=ws.toList) F (qp _ _) h1 h3 (fun h' F' N' => ?_) (by rw[hl];exact cN q)
 obtain⟨S',l'⟩:=S.JG (p := .lst (x++y) none) s.toks F F' N' fun σ Ow le e=>⟨⟨(vs.toList++ws.toList).toArray,⟨_,e,rfl,_,rfl⟩,(h2.mono le).append (h4.mono le)⟩,fun x e=>aE e⟩
 exact⟨_,l',⟨_,rfl,none,by simp[cV]⟩,S'⟩
theorem BK{op:Pq}{a b r:D}{u v:Value}{τ θ s}(e:gZ op a b=some r)(S:SR c τ θ ρ Γ s)(ha:VR τ a u)(hb:VR τ b v):N5 (M' PG c.w) c.A (T4 op u v) (DP c τ θ ρ Γ r) bh s:=by
 cases a with
 |int a=>
  obtain⟨x,h1,e⟩:=ai e;obtain rfl:=D.cP h1;obtain⟨t,rfl⟩:=ha;obtain⟨t',rfl⟩:=hb;exact GA e S
 |str a=>
  obtain⟨x,h1,e⟩:=ai e;obtain rfl:=D.cC h1;obtain⟨h2,e⟩:=cB e;obtain⟨q,rfl⟩:=bF e;obtain rfl:=kf h2;obtain⟨t,rfl⟩:=ha;obtain⟨t',rfl⟩:=hb;exact Bp q S
 |lst a=>
  obtain⟨x,h1,e⟩:=ai e;obtain rfl:=D.eQ h1;obtain⟨h2,e⟩:=cB e;obtain⟨q,rfl⟩:=bF e;obtain rfl:=kf h2;exact zy q S ha hb
 |_=>exact aE e
theorem Ex.qE{g p}{q:Str×D}{ns:List Str}(h:T.gn[g]?=some q):(Ex.glob g p).back T ns = .Name q.1 (aK p):=by
 show PySem.Expr.Name (T.gn.getD g ("",.none)).1 (aK p)=_
 rw[O8,h];rfl
theorem CT{g p}(hT : ∀q∈T.gn,q.2 = .none\/∃v,q.2 = .val v/\GV (KK c.w.params) q.1 v/\c.env.kindOf q.1=some .globalImplicit)(hN : ∀q∈T.gn,q.2≠ .none):SE c T O m (.glob g p):=fun ρ Γ => .of fun τ θ s hn S=>by
 obtain⟨v',hv,e'⟩:=ig hn rfl;obtain⟨q,hq,rfl⟩:=aJ hv;have hm:=Og hq;obtain⟨v,e,gv,hk⟩:=(hT _ hm).resolve_left (hN _ hm);rw[Ex.qE hq];exact kN S gv hk (.fin (.refl _ _) (b := .d q.2) (by rw[e];exact rfl) S e')
inductive DV(c:Cx)(τ:aF)(θ:aX)(ρ:aq)(Γ:ag)(z:V)(w:Value)(s':Shared):Prop
 |mk (Ow:aF) (l:Le τ Ow) (r:VV Ow θ z w) (S:SR c Ow θ ρ Γ s')
theorem DV.here{τ θ z w s}(r:VV τ θ z w)(S:SR c τ θ ρ Γ s):DV c τ θ ρ Γ z w s:=⟨τ,.refl _,r,S⟩
theorem DP.v{τ θ d w s}(h:DP c τ θ ρ Γ d w s):DV c τ θ ρ Γ (.d d) w s:=let ⟨Ow,l,r,S⟩:=h;⟨Ow,l,r,S⟩
theorem fR{t:Su Value}{o:Option V}{r0:Res V}{τ OJ θ OQ s}{E:Value->Shared->Prop}(n:Res.opt ρ Γ o≠ .no)(e:r0=Res.opt ρ Γ o)(l:Lq OJ OQ τ θ)(k : ∀z,o=some z->N5 (M' PG c.w) c.A t (DV c τ θ ρ Γ z) bh s):N5 (M' PG c.w) c.A t (QP c OJ OQ RV r0.Q) E s:=by
 obtain⟨z,h,e'⟩:=ig n e;exact fA (Ob (k z h) (fun w s' hz=>by obtain⟨Ow,l',r,S⟩:=hz;exact⟨Ow,θ,z,ρ,Γ,l.l.trans l',l.k,r,S,e'⟩) fun _ _ x=>x)
theorem Co{op:Pq}{x y z:V}{u v:Value}{τ θ s}(h:(x.d?.bind fun x=>y.d?.bind fun y=>(gZ op x y).map V.d)=some z)(S:SR c τ θ ρ Γ s)(ru:VV τ θ x u)(rv:VV τ θ y v):N5 (M' PG c.w) c.A (T4 op u v) (DV c τ θ ρ Γ z) bh s:=by
 obtain⟨x',hx,h⟩:=ai h;obtain⟨y',hy,h⟩:=ai h;obtain⟨r,q,rfl⟩:=aJ h;obtain rfl:=V.cf hx;obtain rfl:=V.cf hy;exact Ob (BK q S ru rv) (fun w s' h=>h.v) fun _ _ x=>x
theorem Ds{op a b p}(h1:SE c T O m a)(h2:SE c T O m b):SE c T O m (.bin op a b p):=fun ρ Γ => .of fun τ θ s hn S=>
 wpAny_BinOp ((h1 ρ Γ).go hn S (.refl _ _) fun u OU Oo OC x Od Oj Oz _ OL Ot n₁ OA=>
  (h2 Od Oj).go n₁ Ot Oz (fun v Pn Pu O5 y PJ PA PI m₂ PX OW Px O6=>fR Px O6 PI fun z h=>Co h OW (VV.mono m₂.l m₂.k OL) PX) OA)
end
section
variable{c:Cx}{ρ:aq}{Γ:ag}
noncomputable def dT(c:Cx)(σ:Addr->Option Own)(h:Po)(mv:Str->Option Value)(a:Addr):Option Own:=
 if a=c.env.locals then some (.ns mv) else match σ a with | some .cl=>(h.get? a).map .it | _=>c.held a
noncomputable def Cx.sub(c:Cx)(σ:Addr->Option Own)(h:Po)(mv:Str->Option Value)(env:R0)(ns:List Str):Cx:=
 {w:=c.w,h0:=c.h0,os:=c.os,A:=c.A.deeper env,env:=env,lv:=c.lv+1,ns:=ns,held:=dT c σ h mv}
structure oS(env:R0)(ns:List Str):Prop where
 kind:env.scope.kind = .function
 globals:env.globals=mainGlobals
 builtins:env.builtins=builtinsNs
 eL : ∀x k,env.kindOf x=some k->(x==("__debug__":Str))=false
 cX : ∀x k,env.kindOf x=some k->(x==("__classdict__":Str))=false
 vars : ∀x∈ns,env.kindOf x=some .local\/(env.kindOf x=some .cell/\∃a,env.cells.lookup x=some a)
 once:ns.Nodup
 dW : ∀x y a,env.cells.lookup x=some a->env.cells.lookup y=some a->x=y
 frame:env.frame=some env.locals
theorem qq{x:Str}{a:Addr}: ∀{l:List (Str×Addr)},l.lookup x=some a->∃y,(y,a)∈l
 |(y,b)::r,h=>by
  rw[ON] at h;split at h
  ·injection h with h;subst h;exact⟨y,.head _⟩
  ·obtain⟨z,hz⟩:=qq h;exact⟨z,.tail _ hz⟩
open Classical in
noncomputable def Sn(σ:Addr->Option Own)(h:Po)(L:Addr)(mv:Str->Option Value)(env:R0):Addr->Option Own:=fun a=>
 if a=env.locals then some .fr else if (∃x,env.cells.lookup x=some a) then some .cl else if a=L then some (.ns mv) else match σ a with | some .cl=>(h.get? a).map .it | x=>x
inductive J3(σ:Addr->Option Own)(h:Po)(L:Addr)(mv:Str->Option Value)(env:R0)(a:Addr)(o:Own):Prop
 |fr (e:a=env.locals) (q:o = .fr)
 |cl (x:Str) (e:env.cells.lookup x=some a) (q:o = .cl)
 |ns (e:a=L) (q:o = .ns mv)
 |it (e:σ a=some .cl) (y:Obj) (hy:h.get? a=some y) (q:o = .it y)
 |old (e:σ a=some o)
inductive HB(c:Cx)(σ:Addr->Option Own)(h:Po)(mv:Str->Option Value)(a:Addr)(o:Own):Prop
 |ns (e:a=c.env.locals) (q:o = .ns mv)
 |it (n:a≠c.env.locals) (e:σ a=some .cl) (y:Obj) (hy:h.get? a=some y) (q:o = .it y)
 |old (n:a≠c.env.locals) (e:c.held a=some o)
section
variable{σ σ':Addr->Option Own}{τ Ow:aF}{θ OT:aX}{h Rr:Po}{L a:Addr}{mv:Str->Option Value}{env:R0}{o:Own}
theorem yD{x:Option Own}(e:(match σ a with | some .cl=>(h.get? a).map .it | _=>x)=some o):(σ a=some .cl/\∃y,h.get? a=some y/\o = .it y)\/x=some o:=by
 cases q:σ a with
 |none=>rw[q] at e;exact .inr e
 |some p=>
  cases p with
  |cl=>
   rw[q] at e;obtain⟨y,h1,h2⟩:=aJ e;exact .inl ⟨rfl,y,h1,h2.symm⟩
  |_=>rw[q] at e;exact .inr e
theorem xQ(e:(match σ a with | some .cl=>(h.get? a).map .it | x=>x)=some o):(σ a=some .cl/\∃y,h.get? a=some y/\o = .it y)\/σ a=some o:=by
 cases q:σ a with
 |none=>rw[q] at e;exact .inr e
 |some p=>
  cases p with
  |cl=>
   rw[q] at e;obtain⟨y,h1,h2⟩:=aJ e;exact .inl ⟨rfl,y,h1,h2.symm⟩
  |_=>rw[q] at e;exact .inr e
theorem GN(e:Sn σ h L mv env a=some o):J3 σ h L mv env a o:=by
 unfold Sn at e;by_cases q1:a=env.locals
 ·rw[if_pos q1] at e;exact .fr q1 (j' e).symm
 rw[if_neg q1] at e;by_cases q2 : ∃x,env.cells.lookup x=some a
 ·rw[if_pos q2] at e;exact q2.elim fun x hx => .cl x hx (j' e).symm
 rw[if_neg q2] at e;by_cases q3:a=L
 ·rw[if_pos q3] at e;exact .ns q3 (j' e).symm
 rw[if_neg q3] at e;exact(xQ e).elim (fun q=>q.2.elim fun y hy => .it q.1 y hy.1 hy.2) .old
theorem AY(e:dT c σ h mv a=some o):HB c σ h mv a o:=by
 unfold dT at e;by_cases q3:a=c.env.locals
 ·rw[if_pos q3] at e;exact .ns q3 (j' e).symm
 rw[if_neg q3] at e;exact(yD e).elim (fun q=>q.2.elim fun y hy => .it q3 q.1 y hy.1 hy.2) (.old q3)
theorem nX(n1:a≠env.locals)(n2 : ¬∃x,env.cells.lookup x=some a)(n3:a≠L):Sn σ h L mv env a=match σ a with | some .cl=>(h.get? a).map .it | x=>x:=by
 unfold Sn;rw[if_neg n1,if_neg n2,if_neg n3]
theorem sJ{x:Option Own}(e:σ a=some o)(n:o≠ .cl):(match σ a with | some .cl=>(h.get? a).map .it | x=>x)=some o:=by
 rw[e];cases o with
 |cl=>exact absurd rfl n
 |_=>rfl
theorem pS(n3:a≠c.env.locals)(e:c.held a=some o)(hs:σ a=some o)(n:o≠ .cl):dT c σ h mv a=some o:=by
 unfold dT;rw[if_neg n3,hs];cases o with
 |cl=>exact absurd rfl n
 |_=>exact e
theorem sh:dT c σ h mv c.env.locals=some (.ns mv):=if_pos rfl
theorem tM{y:Obj}(n3:a≠c.env.locals)(e:σ a=some .cl)(hy:h.get? a=some y):dT c σ h mv a=some (.it y):=by
 unfold dT;rw[if_neg n3,e];exact congrArg (Ru Own.it) hy
theorem lO(W:c.WF)(e:c.held a=some o):o≠ .cl/\o≠ .fr:=by
 rcases W.fK a o e with⟨x,rfl⟩ | ⟨x,rfl⟩<;>exact⟨Own.noConfusion,Own.noConfusion⟩
theorem mX(W:c.WF)(e:dT c σ h mv a=some o):(∃x,o = .it x)\/∃m,o = .ns m:=by
 cases AY e with
 |ns _ q=>exact .inr ⟨_,q⟩
 |it _ _ y _ q=>exact .inl ⟨y,q⟩
 |old _ q=>exact W.fK a o q
theorem nA(O:OK c σ τ θ ρ Γ h)(n:σ a=none):dT c σ h mv a=none:=by
 have n3:a≠c.env.locals:=fun q=>nomatch (q▸n).symm.trans O.fr
 unfold dT;rw[if_neg n3,n];cases q:c.held a with
 |none=>rfl
 |some o=>exact nomatch n.symm.trans (O.held a o q)
theorem oM(W:c.WF)(e:c.held a=some o):a≠c.env.locals:=fun q=>by rw[q,W.n7] at e;exact nomatch e
theorem qW(O:OK c σ τ θ ρ Γ h)(e:σ a=some o)(n:o≠ .fr):a≠c.env.locals:=fun q=>n (j' ((q▸e).symm.trans O.fr))
theorem oj(W:c.WF)(O:OK c σ τ θ ρ Γ h){e:R0}{L:Addr}(hL:L=c.env.locals\/∃m,c.held L=some (.ns m)): ∃m,dT c σ h mv L=some (.ns m):=by
 rcases hL with rfl | ⟨m,q⟩
 ·exact⟨mv,sh⟩
 ·exact⟨m,pS (oM W q) q (O.held _ _ q) Own.noConfusion⟩
theorem z6 {c₁:Cx} {Od:aq} (O:OK c σ τ θ ρ Γ h) (hmv:h.Ns c.env.locals mv) (hw:c₁.w=c.w) (keep : ∀b x,h.get? b=some x->Rr.get? b=some x)
  (fresh : ∀a o,σ a=some o->a≠c₁.env.locals) (nsC : ∃m,Rr.Ns c₁.env.locals m)
  (cel : ∀x a,c₁.env.cells.lookup x=some a->(∀o,σ a=some o->o = .cl)/\a≠c₁.env.locals/\∃v,Rr.IsCell a v)
  (loc : ∀mv,Rr.Ns c₁.env.locals mv->∀(i:Nat) (x:Str) (v:V),c₁.ns[i]?=some x->Od[i]?=some (some v)->c₁.env.kindOf x=some .local->∃u,mv x=some u/\VV τ θ v u)
  (cell : ∀(i:Nat) (x:Str),c₁.ns[i]?=some x->c₁.env.kindOf x≠some .local->∃a,c₁.env.cells.lookup x=some a/\∀v,Od[i]?=some (some v)->∃u,Rr.IsCell a (some u)/\VV τ θ v u)
  (held : ∀a o,c₁.held a=some o->dT c σ h mv a=some o/\¬∃x,c₁.env.cells.lookup x=some a) (W:c.WF) (len:Len c₁.hd θ Γ) :
  OK c₁ (Sn σ h c.env.locals mv c₁.env) τ θ Od Γ Rr:=by
 have ncl : ∀a o,σ a=some o->o≠ .cl->¬∃x,c₁.env.cells.lookup x=some a:=fun a o e n hz=>by obtain⟨x,hx⟩:=hz;exact n ((cel x a hx).1 o e)
 have σs : ∀a o,σ a=some o->o≠ .fr->o≠ .cl->Sn σ h c.env.locals mv c₁.env a=some o:=fun a o e h1 h2=>(nX (fresh a o e) (ncl a o e h2) (qW O e h1)).trans (sJ (x:=none) e h2)
 refine⟨fun a o e => ?_,fun a p=>⟨fun e=>σs a _ ((O.bp a p).mp e) Own.noConfusion Own.noConfusion,fun e=>(O.bp a p).mpr ?_⟩,if_pos rfl,loc,fun i x hx hk => ?_,fun a o e => ?_,len,O.inj,fun n a e => ?_,fun n a m hm e=>σs a _ (O.d6 n a m hm e) Own.noConfusion Own.noConfusion⟩
 ·cases GN e with
  |fr e q=>rw[q,e];exact nsC
  |cl x e q=>rw[q];exact(cel x a e).2.2
  |ns e q=>rw[q,e];exact hmv.keeps keep
  |it _ y hy q=>rw[q];exact keep _ _ hy
  |old e=>
   obtain⟨x,hx⟩:=O.there e;rw[hw];refine(O.at_ a o e).dQ (.refl _) (.refl _) _ (fun d f q=>σs d _ q Own.noConfusion Own.noConfusion) ((keep _ _ hx).trans hx.symm) fun d hd => ?_
   obtain⟨y,hy⟩:=O.there hd;exact(keep _ _ hy).trans hy.symm
 ·cases GN e with
  |fr _ q=>exact Own.noConfusion q
  |cl _ _ q=>exact Own.noConfusion q
  |ns _ q=>exact Own.noConfusion q
  |it _ _ _ q=>exact Own.noConfusion q
  |old e=>exact e
 ·obtain⟨a,ha,hv⟩:=cell i x hx hk
  have n1:=(cel x a ha).2.1;exact⟨a,ha,(if_neg n1).trans (if_pos ⟨x,ha⟩),hv⟩
 ·obtain⟨e,n2⟩:=held a o e
  cases AY e with
  |ns e q=>
   subst e;rw[q];exact(if_neg (fresh _ _ O.fr)).trans ((if_neg n2).trans (if_pos rfl))
  |it n e y hy q=>
   rw[q];exact(nX (fresh _ _ e) n2 n).trans (by rw[e];exact congrArg (Ru Own.it) hy)
  |old n e=>exact(nX (fresh _ _ (O.held a o e)) n2 n).trans (sJ (x:=none) (O.held a o e) (lO W e).1)
 ·obtain⟨o,h1,h2⟩:=O.eo n a e
  refine⟨o,σs a o h1 ?_ ?_,h2⟩<;>rcases h2 with⟨_,rfl⟩ | ⟨_,rfl⟩<;>exact Own.noConfusion
open Classical in
noncomputable def Rt(σ σ':Addr->Option Own)(L:Addr):Addr->Option Own:=fun a=>if a=L then some .fr else if σ a=some .cl then some .cl else match σ' a with | some .fr=>none | some .cl=>none | x=>x
inductive HQ(σ σ':Addr->Option Own)(L a:Addr)(o:Own):Prop
 |fr (e:a=L) (q:o = .fr)
 |cl (e:σ a=some .cl) (q:o = .cl)
 |old (e:σ' a=some o)
theorem wV(e:(match σ' a with | some .fr=>none | some .cl=>none | x=>x)=some o):σ' a=some o:=by
 cases q:σ' a with
 |none=>rw[q] at e;exact e
 |some p=>
  cases p with
  |fr=>rw[q] at e;exact nomatch e
  |cl=>rw[q] at e;exact nomatch e
  |_=>rw[q] at e;exact e
theorem AM(e:Rt σ σ' L a=some o):HQ σ σ' L a o:=by
 unfold Rt at e;by_cases q1:a=L
 ·rw[if_pos q1] at e;exact .fr q1 (j' e).symm
 rw[if_neg q1] at e;by_cases q2:σ a=some .cl
 ·rw[if_pos q2] at e;exact .cl q2 (j' e).symm
 rw[if_neg q2] at e;exact .old (wV e)
theorem uP(n1:a≠L)(n2:σ a≠some .cl)(e:σ' a=some o)(h1:o≠ .fr)(h2:o≠ .cl):Rt σ σ' L a=some o:=by
 unfold Rt;rw[if_neg n1,if_neg n2,e];cases o with
 |fr=>exact absurd rfl h1
 |cl=>exact absurd rfl h2
 |_=>rfl
theorem xI {c₁:Cx} {O3:aq} {Γ':ag} (W:c.WF) (O:OK c σ τ θ ρ Γ h) (hmv:h.Ns c.env.locals mv) (l:Lq τ θ Ow OT) (O':OK c₁ σ' Ow OT O3 Γ' Rr) (hw:c₁.w=c.w) (h1:σ' c.env.locals=some (.ns mv))
  (hc : ∀a,σ a=some .cl->(∃y,h.get? a=some y/\σ' a=some (.it y))\/(σ' a=some .cl/\∀(i:Nat) (x:Str) (v:V),c.ns[i]?=some x->c.env.cells.lookup x=some a->ρ[i]?=some (some v)->∃u,Rr.IsCell a (some u)/\VV Ow OT v u))
  (hh : ∀a o,c.held a=some o->σ' a=some o) (len:Len c.hd OT Γ'):OK c (Rt σ σ' c.env.locals) Ow OT ρ Γ' Rr:=by
 have Tr : ∀a o,σ' a=some o->o≠ .fr->o≠ .cl->(∀m,o≠ .ns m)->(∀y,o≠ .it y)->Rt σ σ' c.env.locals a=some o:=fun a o e n1 n2 n3 n4=>by
  refine uP (fun q=>n3 mv (j' ((q▸e).symm.trans h1))) (fun q => ?_) e n1 n2
  rcases hc a q with⟨y,_,q'⟩ | ⟨q',_⟩
  ·exact n4 y (j' (e.symm.trans q'))
  ·exact n2 (j' (e.symm.trans q'))
 have two : ∀{o:Own},((∃m,o = .mu m)\/∃p,o = .bp p)->o≠ .fr/\o≠ .cl/\(∀m,o≠ .ns m)/\∀y,o≠ .it y:=fun q=>by
  rcases q with⟨_,rfl⟩ | ⟨_,rfl⟩<;>exact⟨Own.noConfusion,Own.noConfusion,fun _=>Own.noConfusion,fun _=>Own.noConfusion⟩
 refine⟨fun a o e => ?_,fun a p=>⟨fun e=>Tr _ _ ((O'.bp a p).mp e) Own.noConfusion Own.noConfusion (fun _=>Own.noConfusion) fun _=>Own.noConfusion,fun e=>(O'.bp a p).mpr ?_⟩,if_pos rfl,fun mv' hm i x v hx hv hk => ?_,fun i x hx hk => ?_,fun a o e => ?_,len,O'.inj,fun n a e => ?_,fun n a m hm e => ?_⟩
 ·cases AM e with
  |fr e q=>rw[q,e];exact⟨mv,O'.at_ _ _ h1⟩
  |cl e q=>
   rw[q];rcases hc a e with⟨y,hy,q'⟩ | ⟨q',_⟩
   ·obtain⟨v,hv⟩:=O.at_ _ _ e
    exact⟨v,dO ((O'.at_ _ _ q').trans hy.symm) hv⟩
   ·exact O'.at_ _ _ q'
  |old e=>rw[<-hw];exact(O'.at_ a o e).dQ (.refl _) (.refl _) _ (fun d f q=>Tr d _ q Own.noConfusion Own.noConfusion (fun _=>Own.noConfusion) fun _=>Own.noConfusion) rfl fun _ _=>rfl
 ·cases AM e with
  |fr _ q=>exact Own.noConfusion q
  |cl _ q=>exact Own.noConfusion q
  |old e=>exact e
 ·obtain rfl:=fq hm (O'.at_ _ _ h1)
  obtain⟨u,p,q⟩:=O.loc _ hmv i x v hx hv hk;exact⟨u,p,q.mono l.l l.k⟩
 ·obtain⟨a,p,q,r⟩:=O.cell i x hx hk
  refine⟨a,p,(if_neg (qW O q Own.noConfusion)).trans (if_pos q),fun v hv => ?_⟩
  rcases hc a q with⟨y,hy,q'⟩ | ⟨_,q'⟩
  ·obtain⟨u,y,z⟩:=r v hv
   exact⟨u,dO ((O'.at_ _ _ q').trans hy.symm) y,z.mono l.l l.k⟩
  ·exact q' i x v hx p hv
 ·have n:=lO W e
  exact uP (oM W e) (fun q=>n.1 (j' ((O.held a o e).symm.trans q))) (hh a o e) n.2 n.1
 ·obtain⟨o,p,q⟩:=O'.eo n a e
  have z:=two q;exact⟨o,Tr a o p z.1 z.2.1 z.2.2.1 z.2.2.2,q⟩
 ·exact Tr a _ (O'.d6 n a m hm e) Own.noConfusion Own.noConfusion (fun _=>Own.noConfusion) fun _=>Own.noConfusion
end
theorem enter {σ τ θ} {s OU:Shared} {mv m cm} {env:R0} {ns:List Str} {Od:aq} (S:SR c τ θ ρ Γ s) (O:OK c σ τ θ ρ Γ s.heap) (hmv:s.heap.Ns c.env.locals mv)
  (E:oS env ns) (I:InCallC s env.locals m env.cells cm OU) (hl:Od.length=ns.length) (hsz:848<=s.heap.objs.size)
  (hloc : ∀(i:Nat) (x:Str) (v:V),ns[i]?=some x->Od[i]?=some (some v)->env.kindOf x=some .local->∃u,m x=some u/\VV τ θ v u)
  (hcell : ∀(i:Nat) (x:Str) (v:V),ns[i]?=some x->Od[i]?=some (some v)->env.kindOf x=some .cell->∃u,cm x=some u/\VV τ θ v u) :
  SR (c.sub σ s.heap mv env ns) τ θ Od Γ OU:=by
 obtain⟨Rr,tk,rfl⟩:=I.toInCall.same;have fresh:s.heap.objs.size<=env.locals:=I.toInCall.fresh;have old : ∀a o,σ a=some o->a<s.heap.objs.size:=fun a o e=>(O.there e).elim fun x hx=>PC hx
 have new : ∀a,s.heap.objs.size<=a->σ a=none:=fun a ha=>by cases q:σ a with | none=>rfl | some o=>exact absurd (old a o q) (Tj.mpr ha)
 have cellNew : ∀x a,env.cells.lookup x=some a->env.locals<a:=fun x a e=>let ⟨y,hy⟩:=qq e;I.above _ _ hy
 have cn : ∀x a,env.cells.lookup x=some a->σ a=none:=fun x a e=>new a (N0 fresh (Oy (cellNew x a e)))
 refine⟨⟨S.wf.base,E.kind,E.globals,E.builtins,E.eL,E.cX,fun x hx=>(E.vars x hx).imp_right fun h => .inl h.1,E.once,nA O (new _ fresh),fun a o e=>mX S.wf e,E.dW,N0 hsz fresh,?_,?_,?_⟩,hl,⟨Sn σ s.heap c.env.locals mv env,z6 O hmv rfl I.toInCall.keep (fun a o e q=>QM a (Rb (old a o e) (q▸fresh))) ⟨m,I.toInCall.ns⟩ (fun x a e=>⟨fun o q=>(nomatch (cn x a e).symm.trans q),T9 (cellNew x a e),cm x,I.cell _ _ e⟩) (fun mv' hm i x v hx hv hk => ?_) (fun i x hx hk => ?_) (fun a o e=>⟨e,fun hz=>by obtain⟨x,hx⟩:=hz;exact nomatch (nA O (cn x a hx)).symm.trans e⟩) S.wf ⟨O.len.eq,fun k a e=>nomatch e⟩⟩,S.base,S.gens,S.os⟩
 ·exact N0 (RY S.wf.depth 1) (by show 301+3 * c.lv+1<=301+3 * (c.lv+1);exact bX (pJ hl) (cb hl))
 ·exact N0 (RY S.wf.units 3) (by show 10+10 * c.lv+3<=10+10 * (c.lv+1);exact bX (pJ hl) (cb hl))
 ·obtain⟨l,h1,h2,h3⟩:=S.wf.frames
  refine⟨env::l,congrArg (Ru (env :: ·)) h1,⟨env,l,rfl,rfl⟩,fun e he => ?_⟩
  rcases N7.mp he with q | he
  ·rw[q];exact⟨by rw[E.kind];exact ScopeKind.noConfusion,env.locals,E.frame,.inl rfl⟩
  ·obtain⟨k,L,hL,q⟩:=h3 e he
   exact⟨k,L,hL,.inr (oj (e:=env) S.wf O q)⟩
 ·obtain rfl:=fq hm I.toInCall.ns
  exact hloc i x v hx hv hk
 ·rcases E.vars x (Og hx) with h | ⟨h,a,ha⟩
  ·exact absurd h hk
  ·refine⟨a,ha,fun v hv => ?_⟩
   obtain⟨u,h1,h2⟩:=hcell i x v hx hv h;exact⟨u,h1▸I.cell _ _ ha,h2⟩
theorem leave {σ τ Ow θ OT} {s s':Shared} {mv} {env:R0} {ns:List Str} {O3:aq} {Γ':ag} (S:SR c τ θ ρ Γ s) (O:OK c σ τ θ ρ Γ s.heap) (hmv:s.heap.Ns c.env.locals mv)
  (l:Lq τ θ Ow OT) (S':SR (c.sub σ s.heap mv env ns) Ow OT O3 Γ' s'):SR c Ow OT ρ Γ' s':=by
 obtain⟨σ',O'⟩:=S'.own;refine⟨S.wf,S.rl,⟨Rt σ σ' c.env.locals,xI S.wf O hmv l O' rfl (O'.held _ _ sh) (fun a e => .inl ?_) (fun a o e=>O'.held _ _ (pS (oM S.wf e) e (O.held a o e) (lO S.wf e).1)) ⟨O'.len.eq,fun k a e=>l.k _ _ (O.len.pin k a e)⟩⟩,fun a o e=>l.l _ _ (S.base a o e),S'.gens,S'.os⟩
 obtain⟨y,hy⟩:=O.there e;exact⟨y,hy,O'.held _ _ (tM (qW O e Own.noConfusion) e hy)⟩
end
section
variable{c:Cx}{ρ:aq}{Γ:ag}{T:Tab}{O:aL}
noncomputable def Own.out:Own->Bool
 | .mu _=>true
 | .sub _=>true
 |_=>false
noncomputable def jj(σ:Addr->Option Own)(h:Po)(a:Addr)(x:Option Own):Option Own:=match σ a with
 |some o=>cond o.out ((h.get? a).map .it) x
 |none=>x
noncomputable def Cx.bare(c:Cx)(σ:Addr->Option Own)(h:Po):Cx:=
 {c with hd:=none,held:=fun a=>jj σ h a (c.held a)}
noncomputable def pv(θ:aX):V->Option V
 | .d x=>some (.d x)
 | .loc n=>(θ[n]?).map fun a => .d (.val (.ref a))
noncomputable def iE(θ:aX)(ρ:aq):aq:=ρ.map fun o=>o.bind (pv θ)
theorem kc{τ θ OT v v' u}(e:pv θ v=some v'):VV τ OT v' u↔VV τ θ v u:=by
 cases v with
 |d x=>injection e with e;subst e;exact Iff.rfl
 |loc n=>
  simp only[pv] at e;cases q:θ[n]? with
  |none=>rw[q] at e;cases e
  |some a=>
   rw[q] at e;cases e;simp[VV,VR,q]
theorem sy{θ}{i:Nat}{v':V}(e:(iE θ ρ)[i]?=some (some v')): ∃v,ρ[i]?=some (some v)/\pv θ v=some v':=by
 simp only[iE,Oc] at e;cases q:ρ[i]? with
 |none=>rw[q] at e;cases e
 |some o=>
  rw[q] at e;cases o with
  |none=>cases e
  |some v=>exact⟨v,rfl,by simpa using e⟩
theorem qy{τ:aF}{θ:aX}{v:V}{u:Value}(r:VV τ θ v u): ∃v',pv θ v=some v':=by
 cases v with
 |d x=>exact⟨_,rfl⟩
 |loc n=>exact r.elim fun a q=>⟨_,congrArg (Ru fun a=>V.d (.val (.ref a))) q.2⟩
theorem uq{θ:aX}{i:Nat}{v v':V}(h:ρ[i]?=some (some v))(e:pv θ v=some v'):(iE θ ρ)[i]?=some (some v'):=by
 simp only[iE,Oc,h];exact congrArg some e
section
variable{σ σ':Addr->Option Own}{h:Po}{a:Addr}{o:Own}{x:Option Own}
inductive H9(σ:Addr->Option Own)(h:Po)(a:Addr)(x:Option Own)(o:Own):Prop
 |it (p:Own) (e:σ a=some p) (q:p.out=true) (y:Obj) (hy:h.get? a=some y) (z:o = .it y)
 |old (n : ∀p,σ a=some p->p.out=false) (e:x=some o)
theorem qT(e:jj σ h a x=some o):H9 σ h a x o:=by
 unfold jj at e;cases q:σ a with
 |none=>rw[q] at e;exact .old (fun p z=>nomatch q.symm.trans z) e
 |some p=>
  rw[q] at e;cases q2:p.out with
  |true=>
   rw[show(match some p with | some o=>cond o.out ((h.get? a).map Own.it) x | none=>x)=cond p.out ((h.get? a).map Own.it) x from rfl,q2] at e
   obtain⟨y,h1,h2⟩:=aJ e;exact .it p q q2 y h1 h2.symm
  |false=>
   rw[show(match some p with | some o=>cond o.out ((h.get? a).map Own.it) x | none=>x)=cond p.out ((h.get? a).map Own.it) x from rfl,q2] at e
   exact .old (fun p' z=>by rw[<-j' (q.symm.trans z)];exact q2) e
theorem j5(n : ∀p,σ a=some p->p.out=false):jj σ h a x=x:=by
 unfold jj;cases q:σ a with
 |none=>rfl
 |some p=>exact congrArg (fun b=>cond b ((h.get? a).map Own.it) x) (n p q)
theorem sz{y:Obj}(e:σ a=some o)(q:o.out=true)(hy:h.get? a=some y):jj σ h a x=some (.it y):=by
 unfold jj;rw[e];exact(congrArg (fun b=>cond b ((h.get? a).map Own.it) x) q).trans (congrArg (Ru Own.it) hy)
theorem in_of(e:σ a=some o)(q:o.out=false): ∀p,σ a=some p->p.out=false:=fun p z=>by rw[<-j' (e.symm.trans z)];exact q
noncomputable def Vd(σ:Addr->Option Own)(h:Po):Addr->Option Own:=fun a=>jj σ h a (σ a)
theorem pq(W:c.WF)(e:c.held a=some o):o.out=false:=by
 rcases W.fK a o e with⟨x,rfl⟩ | ⟨x,rfl⟩<;>rfl
theorem Ad{τ:aF}{θ OT:aX}{w:World}(q:o.out=false)(H:At σ τ θ w h a o):At σ' τ OT w h a o:=by
 cases o with
 |mu m=>exact nomatch q
 |sub b=>exact nomatch q
 |bp p=>cases p<;>exact H
 |_=>exact H
end
theorem bare{σ τ θ}{s:Shared}(S:SR c τ θ ρ Γ s)(O:OK c σ τ θ ρ Γ s.heap):SR (c.bare σ s.heap) τ [] (iE θ ρ) [] s:=by
 have hb : ∀a o,σ a=some o->o.out=false->Vd σ s.heap a=some o:=fun a o e q=>(j5 (in_of e q)).trans e
 have hh : ∀a o,c.held a=some o->(c.bare σ s.heap).held a=some o:=fun a o e=>(j5 (in_of (O.held a o e) (pq S.wf e))).trans e
 refine⟨⟨S.wf.base,S.wf.kind,S.wf.globals,S.wf.builtins,S.wf.eL,S.wf.cX,S.wf.vars,S.wf.once,(j5 (in_of O.fr rfl)).trans S.wf.n7,fun a o e => ?_,S.wf.dW,S.wf.above,S.wf.depth,S.wf.units,?_⟩,(Oe _).trans S.rl,⟨Vd σ s.heap,⟨fun a o e => ?_,fun a p=>⟨fun e=>hb _ _ ((O.bp a p).mp e) rfl,fun e=>(O.bp a p).mpr ?_⟩,hb _ _ O.fr rfl,fun mv hm i x v hx hv hk => ?_,fun i x hx hk => ?_,fun a o e => ?_,⟨rfl,fun k a e=>nomatch e⟩,fun n m a e=>(nomatch e),fun n a e=>(nomatch e),fun n a m _ e=>(nomatch e)⟩⟩,S.base,S.gens,S.os⟩
 ·cases qT e with
  |it _ _ _ y _ z=>exact .inl ⟨y,z⟩
  |old _ e=>exact S.wf.fK a o e
 ·obtain⟨l,h1,h2,h3⟩:=S.wf.frames
  refine⟨l,h1,h2,fun e he => ?_⟩
  obtain⟨k,L,hL,q⟩:=h3 e he;exact⟨k,L,hL,q.imp_right fun hz=>by obtain⟨m,q⟩:=hz;exact⟨m,hh _ _ q⟩⟩
 ·cases qT e with
  |it _ _ _ y hy z=>rw[z];exact hy
  |old n e=>exact Ad (n o e) (O.at_ a o e)
 ·cases qT e with
  |it _ _ _ y _ z=>exact nomatch z
  |old _ e=>exact e
 ·obtain⟨Wq,h1,h2⟩:=sy hv
  obtain⟨u,h3,h4⟩:=O.loc mv hm i x Wq hx h1 hk;exact⟨u,h3,(kc h2).mpr h4⟩
 ·obtain⟨a,h1,h2,h3⟩:=O.cell i x hx hk
  refine⟨a,h1,hb _ _ h2 rfl,fun v hv => ?_⟩
  obtain⟨Wq,h4,h5⟩:=sy hv;obtain⟨u,h6,h7⟩:=h3 Wq h4;exact⟨u,h6,(kc h5).mpr h7⟩
 ·cases qT e with
  |it p e q y hy z=>rw[z];exact sz e q hy
  |old n e=>exact(j5 n).trans (O.held a o e)
theorem sX{σ τ θ}{s:Shared}(O:OK c σ τ θ ρ Γ s.heap){a o}(e:σ a=some o)(q:o.out=true): ∃y,s.heap.get? a=some y/\(c.bare σ s.heap).held a=some (.it y):=by
 obtain⟨y,hy⟩:=O.there e;exact⟨y,hy,sz e q hy⟩
noncomputable def Own.tk(K:Addr->Bool)(a:Addr):Own->Bool
 | .mu _=>K a
 | .sub b=>K b
 |_=>true
noncomputable def QL(σ σ':Addr->Option Own)(K:Addr->Bool)(a:Addr):Option Own:=match σ a with
 |some o=>cond o.out (some o) ((σ' a).filter (·.tk K a))
 |none=>(σ' a).filter (·.tk K a)
section
variable{σ σ':Addr->Option Own}{K:Addr->Bool}{a:Addr}{o:Own}
inductive Hb(σ σ':Addr->Option Own)(K:Addr->Bool)(a:Addr)(o:Own):Prop
 |old (e:σ a=some o) (q:o.out=true)
 |new (e:σ' a=some o) (q:o.tk K a=true)
theorem z8(e:QL σ σ' K a=some o):Hb σ σ' K a o:=by
 unfold QL at e;cases q:σ a with
 |none=>rw[q] at e;exact .new (PO.mp e).1 (PO.mp e).2
 |some p=>
  rw[q] at e;have e:cond p.out (some p) ((σ' a).filter (·.tk K a))=some o:=e;cases q2:p.out with
  |true=>
   rw[q2] at e;obtain rfl:=j' e;exact .old q q2
  |false=>rw[q2] at e;exact .new (PO.mp e).1 (PO.mp e).2
theorem nq(e:σ a=some o)(q:o.out=true):QL σ σ' K a=some o:=by
 unfold QL;rw[e];exact congrArg (fun b=>cond b (some o) ((σ' a).filter (·.tk K a))) q
theorem kr(n : ∀p,σ a=some p->p.out=false)(e:σ' a=some o)(q:o.tk K a=true):QL σ σ' K a=some o:=by
 have h:(σ' a).filter (·.tk K a)=some o:=PO.mpr ⟨e,q⟩;unfold QL;cases z:σ a with
 |none=>exact h
 |some p=>exact(congrArg (fun b=>cond b (some p) ((σ' a).filter (·.tk K a))) (n p z)).trans h
theorem AX(q:o.out=false):o.tk K a=true:=by
 cases o with
 |mu m=>exact nomatch q
 |sub b=>exact nomatch q
 |_=>rfl
end
section
variable{σ σ':Addr->Option Own}{K:Addr->Bool}{τ Ow:aF}{θ OT O5:aX}{Γ' PA:ag}{s s':Shared}
theorem pO(O:OK c σ τ θ ρ Γ s.heap)(O':OK (c.bare σ s.heap) σ' Ow OT (iE θ ρ) Γ' s'.heap){a:Addr}{o:Own}(e:σ' a=some o)(n : ∀y,o≠ .it y): ∀p,σ a=some p->p.out=false:=fun p z=>by
 cases q:p.out with
 |false=>rfl
 |true=>
  obtain⟨y,_,h⟩:=sX O z q;exact absurd (j' (e.symm.trans (O'.held _ _ h))) (n y)
theorem xW (W:c.WF) (O:OK c σ τ θ ρ Γ s.heap) (l:Le τ Ow) (O':OK (c.bare σ s.heap) σ' Ow OT (iE θ ρ) Γ' s'.heap) (k:Lt θ O5)
  (hK : ∀a m,σ' a=some (.mu m)->K a=true->At (QL σ σ' K) Ow O5 c.w s'.heap a (.mu m)) (len:Len c.hd O5 PA) (inj : ∀(n m:Nat) (a:Addr),O5[n]?=some a->O5[m]?=some a->n=m)
  (eo : ∀(n:Nat) (a:Addr),O5[n]?=some a->θ[n]?=some a\/∃m,QL σ σ' K a=some (.mu m))
  (d6 : ∀(n:Nat) (a:Addr) (m:Mu),PA[n]?=some (some m)->O5[n]?=some a->(Γ[n]?=some (some m)/\θ[n]?=some a)\/QL σ σ' K a=some (.mu m)):OK c (QL σ σ' K) Ow O5 ρ PA s'.heap:=by
 have XX : ∀a o,σ' a=some o->o.out=false->(∀y,o≠ .it y)->QL σ σ' K a=some o:=fun a o e q n=>kr (pO O O' e n) e (AX q)
 have SU : ∀a o,σ a=some o->o.out=true->s'.heap.get? a=s.heap.get? a:=fun a o e q=>by
  obtain⟨y,h1,h2⟩:=sX O e q;exact(O'.at_ _ _ (O'.held _ _ h2)).trans h1.symm
 refine⟨fun a o e => ?_,fun a p=>⟨fun e=>XX _ _ ((O'.bp a p).mp e) rfl fun _=>Own.noConfusion,fun e=>(O'.bp a p).mpr ?_⟩,XX _ _ O'.fr rfl fun _=>Own.noConfusion,fun mv hm i x v hx hv hk => ?_,fun i x hx hk => ?_,fun a o e => ?_,len,inj,fun n a e => ?_,fun n a m hm e => ?_⟩
 ·cases z8 e with
  |old e q=>exact(O.at_ _ _ e).dQ l k _ (fun d f z=>nq z rfl) (SU a o e q) fun d hd=>SU d _ hd rfl
  |new e q=>
   cases o with
   |mu m=>exact hK a m e q
   |sub b=>exact O'.at_ _ _ e
   |bp p=>exact Ad rfl (O'.at_ _ _ e)
   |_=>exact O'.at_ _ _ e
 ·cases z8 e with
  |old _ q=>exact nomatch q
  |new e _=>exact e
 ·obtain⟨mv0,h0⟩:=O.at_ _ _ O.fr
  obtain⟨u0,_,r⟩:=O.loc mv0 h0 i x v hx hv hk;obtain⟨v',q⟩:=qy r;obtain⟨u,h1,h2⟩:=O'.loc mv hm i x v' hx (uq hv q) hk;exact⟨u,h1,((kc q).mp h2).mono (.refl _) k⟩
 ·obtain⟨a,h1,h2,h3⟩:=O'.cell i x hx hk
  refine⟨a,h1,XX _ _ h2 rfl fun _=>Own.noConfusion,fun v hv => ?_⟩
  obtain⟨a0,_,_,h4⟩:=O.cell i x hx hk;obtain⟨u0,_,r⟩:=h4 v hv;obtain⟨v',q⟩:=qy r;obtain⟨u,h5,h6⟩:=h3 v' (uq hv q);exact⟨u,h5,((kc q).mp h6).mono (.refl _) k⟩
 ·have n:=in_of (O.held a o e) (pq W e)
  exact kr n (O'.held _ _ ((j5 n).trans e)) (AX (pq W e))
 ·rcases eo n a e with e | ⟨m,e⟩
  ·obtain⟨o,p,q⟩:=O.eo n a e
   rcases q with⟨m,rfl⟩ | ⟨p',rfl⟩
   ·exact⟨_,nq p rfl,.inl ⟨_,rfl⟩⟩
   ·exact⟨_,XX _ _ ((O'.bp _ _).mp (l _ _ ((O.bp _ _).mpr p))) rfl fun _=>Own.noConfusion,.inr ⟨_,rfl⟩⟩
  ·exact⟨_,e,.inl ⟨m,rfl⟩⟩
 ·rcases d6 n a m hm e with⟨h1,h2⟩ | e
  ·exact nq (O.d6 n a m h1 h2) rfl
  ·exact e
theorem FE(S:SR c τ θ ρ Γ s)(O:OK c σ τ θ ρ Γ s.heap)(l:Le τ Ow)(S':SR (c.bare σ s.heap) Ow OT (iE θ ρ) Γ' s'):SR c Ow θ ρ Γ s':=by
 obtain⟨σ',O'⟩:=S'.own;exact⟨S.wf,S.rl,⟨_,xW (K:=fun _=>false) S.wf O l O' (.refl _) (fun _ _ _ q=>(nomatch q)) O.len O.inj (fun _ _ e => .inl e) fun _ _ _ hm e => .inl ⟨hm,e⟩⟩,fun a o e=>l _ _ (S.base a o e),S'.gens,S'.os⟩
end
noncomputable def Mu.free:Mu->Bool
 | .list _ | .sd _ | .nd _ | .exc _ _ _ _=>true
 |_=>false
theorem yd{fs:List (Nat×D)}{i:Nat}{v:V}:dF i (fs.map fun p=>(p.1,V.d p.2))=some v->∃d,dF i fs=some d/\v = .d d:=by
 induction fs with
 |nil=>intro h;injection h
 |cons x r ih=>
  intro h;simp only[Oa,Cn,Bo] at h ⊢;cases q:I' i x.1 with
  |true=>rw[q] at h;cases h;exact⟨_,rfl,rfl⟩
  |false=>rw[q] at h;exact ih h
theorem At.free{σ VZ τ θ O5 w h a}{m:Mu}(hf:m.free=true)(H:At σ τ θ w h a (.mu m))(hs : ∀d,σ d=some (.sub a)->VZ d=some (.sub a)):At VZ τ O5 w h a (.mu m):=by
 cases m with
 |list=>exact H
 |sd=>exact H
 |nd=>exact H
 |vd=>injection hf
 |inst=>injection hf
 |exc C fs ctx T=>
  obtain⟨d,mA,vs,h1,h2,h3,h4,h6,r⟩:=H;refine⟨d,mA,vs,h1,fun d e=>⟨(h2 d e).1,hs _ (h2 d e).2⟩,h3,h4,fun i v e => ?_,r⟩
  obtain⟨x,u,p,q,r⟩:=h6 i v e;refine⟨x,u,p,q,?_⟩
  obtain⟨y,_,e'⟩:=yd e;subst e';exact r
theorem uw{σ τ θ Ow OT Γ'}{s s':Shared}{UC:Nat}{Ts:Addr}{TN:Mu}(Pa:OT[UC]?=some Ts)(Qg:Γ'[UC]?=some (some TN))(hf:TN.free=true)(S:SR c τ θ ρ Γ s)(O:OK c σ τ θ ρ Γ s.heap)(l:Le τ Ow)(S':SR (c.bare σ s.heap) Ow OT (iE θ ρ) Γ' s'):SR c Ow (θ++[Ts]) ρ (Γ++[some TN]) s':=by
 obtain⟨σ',O'⟩:=S'.own;have h0:σ' Ts=some (.mu TN):=O'.d6 _ _ _ Qg Pa;have n0:=pO O O' h0 fun _=>Own.noConfusion
 have no : ∀i:Nat,θ[i]?≠some Ts:=fun i e=>by
  obtain⟨o,p,q⟩:=O.eo i _ e;rcases q with⟨m,rfl⟩ | ⟨p',rfl⟩
  ·exact nomatch n0 _ p
  ·exact nomatch h0.symm.trans ((O'.bp _ _).mp (l _ _ ((O.bp _ _).mpr p)))
 have i0:QL σ σ' (I' Ts) Ts=some (.mu TN):=kr n0 h0 (OZ Ts);refine⟨S.wf,S.rl,⟨_,xW (K:=I' Ts) S.wf O l O' (.app _ _) (fun a m e q => ?_) ⟨by rw[N1,N1,O.len.eq];rfl,fun k a e=>Lt.app _ _ k a (O.len.pin k a e)⟩ (fun i j b e f => ?_) (fun n a e => ?_) fun n a m hm e => ?_⟩,fun a o e=>l _ _ (S.base a o e),S'.gens,S'.os⟩
 ·obtain rfl:=N2 q
  have z:=h0.symm.trans e;cases z;exact At.free hf (O'.at_ _ _ h0) fun d e=>kr (pO O O' e fun _=>Own.noConfusion) e (OZ Ts)
 ·rcases fM e with e | ⟨e,e'⟩<;>rcases fM f with f | ⟨f,f'⟩
  ·exact O.inj _ _ _ e f
  ·exact absurd (f▸e) (no i)
  ·exact absurd (e▸f) (no j)
  ·exact e'.trans f'.symm
 ·rcases fM e with e | ⟨e,_⟩
  ·exact .inl e
  ·rw[e];exact .inr ⟨_,i0⟩
 ·rcases fM e with e | ⟨e,e'⟩
  ·have hn:n<Γ.length:=by rw[<-O.len.eq];exact(N3.mp e).1
   rw[Pf hn] at hm;exact .inl ⟨hm,e⟩
  ·subst e;subst e'
   rw[O.len.eq,Ov (Ox _),P6] at hm;obtain rfl:=j' (j' hm);exact .inr i0
end
section
variable{c:Cx}{ρ:aq}{Γ:ag}{T:Tab}{O:aL}
def CR(Q E:Value->Shared->Prop):Result->Shared->Prop:=fun r s'=>match r with | .ok (.ret v)=>Q v s' | .ok _=>False | .error e=>E e s'
def eA(w:World)(fa:List Addr)(O:aL)(n:Nat):Prop:=
 ∀(c:Cx),c.w=w->c.lv<=n->∀(b:Bool) (k:Nat) (as:List V) (ρ:aq) (Γ:ag),(b=true->c.A.handled=none)->O b k as Γ≠ .no->
  ∀τ θ s vs,SR c τ θ ρ Γ s->bT τ θ as vs->SP (M' PG c.w) c.A (.call (.ref (fa.getD k 0)) ⟨vs,[]⟩) (CR (QP c τ θ RV ((O b k as Γ).res ρ).Q) (XP c τ θ ((O b k as Γ).res ρ).X)) s
theorem eA.wp{w:World}{fa:List Addr}{O:aL}{n:Nat}(H:eA w fa O n){c:Cx}(hw:c.w=w)(hl:c.lv<=n)(b:Bool)(k:Nat)(as:List V)(ρ:aq)(Γ:ag)(hb:b=true->c.A.handled=none)(hne:O b k as Γ≠ .no)(τ θ s vs)(S:SR c τ θ ρ Γ s)(hv:bT τ θ as vs):
  N5 (M' PG c.w) c.A (call (.ref (fa.getD k 0)) vs []) (QP c τ θ RV ((O b k as Γ).res ρ).Q) (XP c τ θ ((O b k as Γ).res ρ).X) s:=T1 (H c hw hl b k as ρ Γ hb hne τ θ s vs S hv)
theorem bT.bare{τ θ OT}{as:List V}{vs:List Value}(h:iB as=true)(r:bT τ θ as vs):bT τ OT as vs:=
 Rel2.ind (P:=fun as vs=>iB as=true->bT τ OT as vs) (fun _=>trivial) (fun a _ _ _ r _ ih h=>by
  cases a with
  |d x=>exact⟨r,ih h⟩
  |loc n=>exact nomatch h) r h
theorem RG.kT{r:RG}(h:r.res ρ≠ .no):r≠ .no:=by rintro rfl;exact h rfl
theorem RG.KJ{r:RG}(h:r≠ .no):r.res ρ≠ .no:=by cases r<;>simp[RG.res] at h ⊢
theorem tU{n:Nat}{m:Mu}(hg:bq Γ n=some m):Γ[n]?=some (some m):=jk hg
theorem RG.lM{α:Type}{o:Option α}{k:α->RG}(n:RG.aT o k≠ .no): ∃a,o=some a:=by
 cases o with
 |none=>exact absurd rfl n
 |some a=>exact⟨a,rfl⟩
theorem RG.bt{α:Type}{o:Option α}{k:α->RG}{r0:RG}{P:Prop}(n:RG.aT o k≠ .no)(e:r0=RG.aT o k)(K : ∀a,o=some a->k a≠ .no->r0=k a->P):P:=by
 cases o with
 |none=>exact absurd rfl n
 |some a=>exact K a rfl n e
theorem Mu.xK{m e:Mu}(h:m.za=some e):m=e/\m.free=true:=by
 cases m with
 |inst=>exact aE h
 |vd=>exact aE h
 |nd=>exact aE h
 |_=>exact⟨j' h,rfl⟩
theorem CK{τ θ σ s s'}{a:Value}{r:RG}(he:eV Γ r≠ .no)(S:SR c τ θ ρ Γ s)(K:OK c σ τ θ ρ Γ s.heap)(h:QP (c.bare σ s.heap) τ [] RV (r.res (iE θ ρ)).Q a s'):QP c τ θ RV ((eV Γ r).res ρ).Q a s':=by
 obtain⟨Ow,OT,d,O3,Γ',l1,l2,r1,S1,q⟩:=h;cases r with
 |no=>exact(nomatch q)
 |ex m G=>exact(nomatch q)
 |ok v' G=>
  obtain⟨rfl,rfl,rfl⟩:=Res.uL q;cases v' with
  |d x=>exact⟨Ow,θ,.d x,ρ,Γ,l1,.refl _,r1,FE S K l1 S1,rfl⟩
  |loc m=>
   obtain⟨a,rfl,hth⟩:=r1;obtain⟨m0,h0⟩:=RG.lM he;obtain⟨m1,h1,h2⟩:=ai h0;obtain⟨rfl,hf⟩:=Mu.xK h2;exact⟨Ow,θ++[a],.loc Γ.length,ρ,Γ++[some m1],l1,.app _ _,⟨a,rfl,by rw[<-S.th];simp⟩,uw hth (tU h1) hf S K l1 S1,congrArg (fun o=>(RG.aT o fun m=>RG.ok (.loc Γ.length) (Γ++[some m])).res ρ) h0⟩
theorem Br{τ θ σ s s'}{a:Value}{r:RG}(he:eV Γ r≠ .no)(S:SR c τ θ ρ Γ s)(K:OK c σ τ θ ρ Γ s.heap)(h:XP (c.bare σ s.heap) τ [] (r.res (iE θ ρ)).X a s'):XP c τ θ ((eV Γ r).res ρ).X a s':=by
 obtain⟨Ow,OT,m,a,O3,Γ',l1,l2,e1,e2,S1,ix,q⟩:=h;cases r with
 |no=>exact(nomatch q)
 |ok m G=>exact(nomatch q)
 |ex m' G=>
  obtain⟨rfl,rfl,rfl⟩:=Res.LL q;obtain⟨e,h0⟩:=RG.lM he;exact⟨Ow,θ++[a],Γ.length,a,ρ,Γ++[some e.mu],l1,.app _ _,e1,by rw[<-S.th];simp,uw e2 (tU (dS h0)) rfl S K l1 S1,⟨e.C,e.fs,e.x,e.t,by simp[Exc.mu]⟩,congrArg (fun o=>(RG.aT o fun(e:Exc)=>RG.ex Γ.length (Γ++[some e.mu])).res ρ) h0⟩
theorem xH {w:World} {fa:List Addr} {n:Nat} (H:eA w fa O n) (hw:c.w=w) (hn:c.lv<=n) {b:Bool} {k:Nat} {as:List V} (hb:b=true->c.A.handled=none) (ha:iB as=true) (he:eV Γ (O b k as [])≠ .no)
  {τ θ s vs} (S:SR c τ θ ρ Γ s) (hv:bT τ θ as vs) :
  N5 (M' PG c.w) c.A (call (.ref (fa.getD k 0)) vs []) (QP c τ θ RV ((eV Γ (O b k as [])).res ρ).Q) (XP c τ θ ((eV Γ (O b k as [])).res ρ).X) s:=by
 obtain⟨σ,K⟩:=S.own;exact Ob (H.wp (c:=c.bare σ s.heap) hw hn b k as (iE θ ρ) [] hb (by rintro e;rw[e] at he;exact he rfl) τ [] s vs (bare S K) (hv.bare ha)) (fun v s' h=>CK he S K h) fun e s' h=>Br he S K h
end
section
variable{c:Cx}{σ:Addr->Option Own}{τ:aF}{θ:aX}{ρ:aq}{Γ:ag}{h h':Po}
theorem yX{h h':Po}{a:Addr}{mv:Str->Option Value}(x : ∀o,h.get? a=some o->∃sl,h'.get? a=some {o with slots:=sl})(q:h.Ns a mv):h'.Ns a mv:=by
 obtain⟨o,es,ep,a1,a2,a3⟩:=q;obtain⟨sl,e⟩:=x o a1;exact⟨_,es,ep,e,a2,a3⟩
theorem OK.slots{S:List Addr}(O:OK c σ τ θ ρ Γ h)(hs:Heap.SlotsOnly S h h')(hS : ∀a∈S,σ a=some .fr\/∃mv,σ a=some (.ns mv)):OK c σ τ θ ρ Γ h':=by
 have SU : ∀a o,σ a=some o->o≠ .fr->(∀mv,o≠ .ns mv)->h'.get? a=h.get? a:=fun a o e h1 h2=>hs.2.1 a fun m=>by
  rcases hS a m with q | ⟨mv,q⟩<;>rw[e] at q<;>(injection q with q;subst q)
  ·exact h1 rfl
  ·exact h2 _ rfl
 have nsk : ∀a mv,h.Ns a mv->h'.Ns a mv:=fun a mv q=>yX (fun o e=>hs.2.2 a o e) q
 refine⟨fun a o e => ?_,O.bp,O.fr,fun mv hm => ?_,fun i x hx hk => ?_,O.held,O.len,O.inj,O.eo,O.d6⟩
 ·have H:=O.at_ a o e
  cases o with
  |fr=>obtain⟨mv,q⟩:=H;exact⟨mv,nsk _ _ q⟩
  |ns mv=>exact nsk _ _ H
  |_=>exact H.dQ (.refl _) (.refl _) _ (fun _ _ q=>q) (SU a _ e (by simp) (by simp)) fun d hd=>SU d _ hd (by simp) (by simp)
 ·obtain⟨mv',q⟩:=O.at_ _ _ O.fr
  obtain rfl:=fq (nsk _ _ q) hm;exact O.loc _ q
 ·obtain⟨a,h1,h2,h3⟩:=O.cell i x hx hk
  refine⟨a,h1,h2,fun v hv => ?_⟩
  obtain⟨u,h4,h5⟩:=h3 v hv;exact⟨u,dO (SU a _ h2 (by simp) (by simp)) h4,h5⟩
theorem OK.Ht(O:OK c σ τ θ ρ Γ h){t:Addr}{o:Obj}{ts:Array Value}(ht:σ t=some (.bp .tb))(hs : ∀b,b≠t->h'.get? b=h.get? b)(e:h'.get? t=some o)(hd:o.data = .fields ts)(hz:3<ts.size):OK c σ τ θ ρ Γ h':=by
 have SU : ∀a o,σ a=some o->o≠ .bp .tb->h'.get? a=h.get? a:=fun a o OA h1=>hs a fun q=>by subst q;injection ht.symm.trans OA with OA;subst OA;exact h1 rfl
 refine⟨fun a o' e' => ?_,O.bp,O.fr,O.sR (.refl _) (.refl _) (SU _ _ O.fr (by simp)),O.cellK (.refl _) (.refl _) _ fun b e=>⟨e,SU _ _ e (by simp)⟩,O.held,O.len,O.inj,O.eo,O.d6⟩
 by_cases ha:a=t
 ·subst ha;rw[ht] at e';injection e' with e';subst e';exact⟨o,ts,e,hd,hz⟩
 ·exact(O.at_ a o' e').dQ (.refl _) (.refl _) _ (fun _ _ q=>q) (hs a ha) fun d hd=>SU d _ hd (by simp)
theorem ve(W:c.WF)(O:OK c σ τ θ ρ Γ h){l:List R0}(hl:c.A.frames=some l){base:Po}(hb : ∀a,base.get? a=none):
  h.FunFrames base l/\∀a∈l.filterMap (·.frame),σ a=some .fr\/∃mv,σ a=some (.ns mv):=by
 obtain⟨l',h1,h2,h3⟩:=W.frames;rw[hl] at h1;cases h1;have own : ∀e∈l,∃L,e.frame=some L/\(σ L=some .fr\/∃mv,σ L=some (.ns mv)):=fun e he=>by
  obtain⟨k,L,hL,q⟩:=h3 e he;refine⟨L,hL,?_⟩
  rcases q with rfl | ⟨m,q⟩
  ·exact .inl O.fr
  ·exact .inr ⟨m,O.held _ _ q⟩
 have nsd : ∀L,(σ L=some .fr\/∃mv,σ L=some (.ns mv))->∃o,h.get? L=some o/\∀vs,o.data≠ .fields vs:=fun L q=>by
  have : ∃mv,h.Ns L mv:=by
   rcases q with q | ⟨mv,q⟩
   ·exact O.at_ _ _ q
   ·exact⟨mv,O.at_ _ _ q⟩
  obtain⟨mv,o,es,ep,ho,hd,_⟩:=this;exact⟨o,ho,fun vs e=>by rw[hd] at e;cases e⟩
 constructor
 ·clear h2 hl
  induction l with
  |nil=>trivial
  |cons e r ih=>
   obtain⟨L,hL,q⟩:=own e (.head _);obtain⟨o,ho,hd⟩:=nsd L q;exact⟨(h3 e (.head _)).1,⟨L,o,hL,hb L,ho,hd⟩,ih (fun e he=>h3 e (.tail _ he)) fun e he=>own e (.tail _ he)⟩
 ·intro a ha
  obtain⟨e,he,q⟩:=R6.mp ha;obtain⟨L,hL,r⟩:=own e he;rw[hL] at q;cases q;exact r
set_option tactic.hygienic true in
theorem nO{Γ:ag}{n:Nat}{o:Option Mu}(h:Γ[n]?=some o):Γ.set n o=Γ:=by
 apply List.ext_getElem?;intro i;rw[Qz];split
 ·rename_i e;subst e
  have:=(N3.mp h).1;rw[if_pos this,h]
 ·rfl
theorem OK.H2 (O:OK c σ τ θ ρ Γ h) (W:c.WF) {n:Nat} {a t:Addr} {C fs ctx T} (T':Bool) (Qg:Γ[n]?=some (some (.exc C fs ctx T))) (Pa:θ[n]?=some a) (ht:τ t=some .tb) {oe:Obj} {vs:Array Value} (he:h.get? a=some oe) (hd:oe.data = .fields vs)
  (hs : ∀b,b≠a->h'.get? b=h.get? b) (he':h'.get? a=some {oe with data := .fields (vs.setIfInBounds 1 (.ref t))}):OK c (upd σ a (.mu (.exc C fs ctx T'))) τ θ ρ (Γ.set n (some (.exc C fs ctx T'))) h':=by
 have ha:=O.d6 n a _ Qg Pa;have H:=O.at_ a _ ha;have nt:σ t=some (.bp .tb):=(O.bp _ _).mp ht;exact O.change W (m' := .exc C fs ctx T') Pa ha (h':=h') (fun b o hb _ e=>(hs b hb).trans e) (fun b e=>by
  obtain⟨o,ho⟩:=O.there e;have:b≠a:=by rintro rfl;rw[ha] at e;cases e
  exact⟨o,(hs b this).trans ho⟩) (by
  obtain⟨d,mA,vs',h1,h2,h3,h4,h6,h7,h8,h9,h10⟩:=H;rw[he] at h1;cases h1;cases hd;have hda : ∀x,d=some x->x≠a:=fun x e q=>by subst q;have:=(h2 _ e).2;rw[ha] at this;cases this
  refine⟨d,mA,_,he',fun x e=>⟨(h2 x e).1.at fun o e'=>(hs x (hda x e)).trans e',by rw[bu (hda x e)];exact(h2 x e).2⟩,h3,h4,h6,by simpa using h7,fun q => ?_,fun _ => ?_,fun x hx hn => ?_⟩
  ·rw[OR (by decide)];exact h8 q
  ·have:1<vs.size:=ba h7
   simp[this]
  ·have:1<vs.size:=ba h7
   simp[this] at hx;exact⟨t,hx.symm,ht⟩)
theorem M5(a:Addr):hz.get? a=none:=l0 a
def NX(c:Cx)(τ:aF)(θ:aX)(ρ:aq)(Γ:ag)(n:Nat)(s:Shared):Unit->Shared->Prop:=fun _ s' => ∃Ow C fs ctx T,Le τ Ow/\Γ[n]?=some (some (.exc C fs ctx T))/\SR c Ow θ ρ (Γ.set n (some (Mu.exc C fs ctx true))) s'
theorem vE {τ θ s L} {P:Value->Shared->Prop} {E:Value->Shared->Prop} (S:SR c τ θ ρ Γ s) (hL:c.env.frame=some L)
  (k : ∀s',s'.heap.objs.size=s.heap.objs.size->SR c τ θ ρ Γ s'->P (.ref L) s'):N5 (M' PG c.w) c.A (PySem.frameOf c.env) P E s:=by
 obtain⟨σ,O⟩:=S.own;obtain⟨l,h1,⟨e,r,h2,h3⟩,h4⟩:=S.wf.frames;obtain⟨ff,own⟩:=ve S.wf O h1 (base:=hz) l0;unfold PySem.frameOf;refine u' (wpAny_frameEnvs h1 ?_)
 have hdw:(l.dropWhile fun x=>x.frame != c.env.frame)=l:=by subst h2;simp[List.dropWhile,h3]
 rw[hdw];subst h2;unfold frameObject;refine u' (u' (wpAny_readyFrames_fun ff fun Rr V0=>J' ?_))
 rw[<-h3,hL];exact J' (k _ V0.1 ⟨S.wf,S.rl,⟨σ,O.slots V0 own⟩,S.base,S.gens,S.os⟩)
theorem SR.exc{τ θ s}(S:SR c τ θ ρ Γ s){n:Nat}{a:Addr}{C fs ctx T}(Qg:Γ[n]?=some (some (.exc C fs ctx T)))(Pa:θ[n]?=some a):
  ∃oe vs,s.heap.get? a=some oe/\oe.data = .fields vs/\oe.cls = .ref C/\4<vs.size/\(ctx=false->vs[2]?=some .none)/\(T=true->vs[1]?≠some .none)/\(∃x,vs[1]?=some x/\(x = .none\/∃t,x = .ref t/\τ t=some .tb)):=by
 obtain⟨σ,O⟩:=S.own;obtain⟨d,mA,vs,h1,h2,h3,h4,h6,h7,h8,h9,h10⟩:=O.at_ _ _ (O.d6 n a _ Qg Pa);refine⟨_,vs,h1,rfl,rfl,h7,h8,h9,?_⟩
 have:1<vs.size:=ba h7;refine⟨vs[1],by simp[this],?_⟩
 by_cases q:vs[1] = .none
 ·exact .inl q
 ·exact .inr (h10 _ (by simp[this]) q)
theorem SR.tb{τ θ s}(S:SR c τ θ ρ Γ s){t:Addr}(ht:τ t=some .tb): ∃o ts,s.heap.get? t=some o/\o.data = .fields ts/\3<ts.size:=by
 obtain⟨σ,O⟩:=S.own;exact O.at_ _ _ ((O.bp _ _).mp ht)
theorem wA{τ θ s t v}{P:Unit->Shared->Prop}{E:Value->Shared->Prop}(S:SR c τ θ ρ Γ s)(ht:τ t=some .tb)(k : ∀s',SR c τ θ ρ Γ s'->P () s'):N5 (M' PG c.w) c.A (setField (.ref t) 3 v) P E s:=by
 obtain⟨o,ts,h1,h2,h3⟩:=S.tb ht;obtain⟨σ,O⟩:=S.own;refine TY h1 h2 h3 (k _ ⟨S.wf,S.rl,⟨σ,?_⟩,S.base,S.gens,S.os⟩)
 have hd:=Q8 h2 (·.setIfInBounds 3 v);exact O.Ht ((O.bp _ _).mp ht) (fun b hb=>Qw _ _ (PF hb)) (Qb _ h1 (QE hd)) hd (by simpa using h3)
theorem er{τ θ s}{n:Nat}{a:Addr}{f C fs ctx T}{P:Unit->Shared->Prop}{E:Value->Shared->Prop}(S:SR c τ θ ρ Γ s)(Qg:Γ[n]?=some (some (.exc C fs ctx T)))(Pa:θ[n]?=some a)(k : ∀s',SR c τ θ ρ Γ s'->P () s'):N5 (M' PG c.w) c.A (setFlight (.ref a) f) P E s:=by
 obtain⟨oe,vs,h1,h2,_,h4,_,_,x,h5,h6⟩:=S.exc Qg Pa;unfold setFlight;refine u' (PW h1 h2 h5 ?_)
 rcases h6 with rfl | ⟨t,rfl,ht⟩
 ·rw[if_neg (by decide)];exact J' (k _ S)
 ·rw[if_pos (show(Value.ref t != Value.none)=true from by simp)]
  exact wA S ht k
theorem sC {τ θ s} {n:Nat} {a L:Addr} {C fs ctx T head hadNext} {P:Unit->Shared->Prop} {E:Value->Shared->Prop} (S:SR c τ θ ρ Γ s) (hL:c.env.frame=some L) (Qg:Γ[n]?=some (some (.exc C fs ctx T))) (Pa:θ[n]?=some a)
  (k : ∀s' Ow,Le τ Ow->SR c Ow θ ρ (Γ.set n (some (Mu.exc C fs ctx true))) s'->P () s') :
  N5 (M' PG c.w) c.A (do setField (.ref a) 1 (<-Tg head (<-PySem.frameOf c.env) .none (Ta L) .none (<-entryPlaceOf L hadNext))) P E s:=by
 refine u' (vE S hL fun OU V1 Ot => ?_)
 refine u' (wpAny_entryPlaceOf fun pl hpl => ?_)
 unfold Tg newFields;refine u' (QI ?_ (hpl.sizeOk5 _ _ _ _ _))
 obtain⟨OW,PI⟩:=Ot.kG (o:={cls := .type "traceback",dict:=none,data := .fields ([head,.ref L,.none,Ta L,.none]++(if pl.isEmpty then O1 6 Value.none else pl)).toArray}) (p := .tb) OU.toks fun σ Ow le=>⟨_,_,Pw _ rfl,rfl,by simp only[U8,N1,N6,Pk]<;>exact bX (pJ V1) (cb V1)⟩
 obtain⟨oe,vs,h1,h2,_,h4,_⟩:=OW.exc Qg Pa;obtain⟨σ,O⟩:=OW.own;refine TY h1 h2 (ba h4) (k _ _ PI ⟨OW.wf,OW.rl,⟨_,O.H2 OW.wf true Qg Pa (t:=OU.heap.objs.size) (by simp[cV]) h1 h2 (fun b hb=>Qw _ _ (PF hb)) ?_⟩,OW.base,OW.gens,OW.os⟩)
 have hd:=Q8 h2 (·.setIfInBounds 1 (Value.ref OU.heap.objs.size));rw[Qb _ h1 (QE hd)];obtain⟨cl,dc,dt,sl⟩:=oe;simp only at h2;subst h2;rfl
theorem SR.EN {τ θ s} (S:SR c τ θ ρ Γ s) {n:Nat} {C fs ctx T} (T':Bool) (Qg:Γ[n]?=some (some (.exc C fs ctx T)))
  (hT:T'=true->∀a oe vs,θ[n]?=some a->s.heap.get? a=some oe->oe.data = .fields vs->vs[1]?≠some .none):SR c τ θ ρ (Γ.set n (some (Mu.exc C fs ctx T'))) s:=by
 obtain⟨σ,O⟩:=S.own;have hn:n<Γ.length:=(N3.mp Qg).1;have Pa:θ[n]?=some (θ[n]'(by rw[O.len.eq];exact hn)):=N8 _
 generalize θ[n]'(by rw[O.len.eq];exact hn)=a at Pa
 have ha:=O.d6 n a _ Qg Pa;refine⟨S.wf,S.rl,⟨_,O.change S.wf (m' := .exc C fs ctx T') Pa ha (fun b o _ _ e=>e) (fun b e=>O.there e) ?_⟩,S.base,S.gens,S.os⟩
 obtain⟨d,mA,vs,h1,h2,h3,h4,h6,h7,h8,h9,h10⟩:=O.at_ _ _ ha;have hda : ∀x,d=some x->x≠a:=fun x e q=>by subst q;have:=(h2 _ e).2;rw[ha] at this;cases this
 exact⟨d,mA,vs,h1,fun x e=>⟨(h2 x e).1,by rw[bu (hda x e)];exact(h2 x e).2⟩,h3,h4,h6,h7,h8,fun q=>hT q a _ vs Pa h1 rfl,h10⟩
theorem dH{Γ:ag}{n:Nat}{o o':Option Mu}(h:Γ[n]?=some o):(Γ.set n o')[n]?=some o':=by
 have:=(N3.mp h).1;simp[this]
theorem SR.jY{τ θ s}{n:Nat}{C fs ctx T}(Qg:Γ[n]?=some (some (.exc C fs ctx T)))(S:SR c τ θ ρ (Γ.set n (some (Mu.exc C fs ctx true))) s):SR c τ θ ρ Γ s:=by
 have:=S.EN T (dH Qg) fun q a oe vs e1 e2 e3=>by
  obtain⟨oe',vs',h1,h2,_,h4,_,h5,_⟩:=S.exc (dH Qg) e1;injection e2.symm.trans h1 with h1;subst h1
  injection e3.symm.trans h2 with h2;subst h2
  exact h5 rfl
 rw[WN,nO Qg] at this;exact this
theorem gU {τ θ s} {n:Nat} {a L:Addr} {C fs ctx T} {P:Unit->Shared->Prop} {E:Value->Shared->Prop} (S:SR c τ θ ρ Γ s) (hL:c.env.frame=some L) (Qg:Γ[n]?=some (some (.exc C fs ctx T))) (Pa:θ[n]?=some a)
  (k : ∀s' Ow,Le τ Ow->SR c Ow θ ρ (Γ.set n (some (Mu.exc C fs ctx true))) s'->P () s'):N5 (M' PG c.w) c.A (WY (.ref a) c.env) P E s:=by
 obtain⟨oe,vs,h1,h2,_,h4,_,_,x,h5,h6⟩:=S.exc Qg Pa;unfold WY;simp only[hL];refine u' (PW h1 h2 h5 ?_)
 rcases h6 with rfl | ⟨t,rfl,ht⟩
 ·rw[if_neg (by decide)]
  exact sC S hL Qg Pa k
 ·rw[if_pos (show(Value.ref t != Value.none)=true from by simp)]
  obtain⟨o,ts,g1,g2,g3⟩:=S.tb ht;refine u' (PW g1 g2 (x:=ts[3]) (by simp[g3]) ?_)
  by_cases q:(ts[3]==Ta L)=true
  ·rw[if_pos q]
   refine J' (k _ τ (.refl _) (S.EN true Qg fun _ a' oe' vs' e1 e2 e3 => ?_))
   injection Pa.symm.trans e1 with e1;subst e1
   injection h1.symm.trans e2 with e2;subst e2
   injection h2.symm.trans e3 with e3;subst e3
   rw[h5];simp
  ·rw[if_neg q]
   exact u' (wA S ht fun OU Ot=>sC Ot hL Qg Pa k)
theorem u5 {τ θ s} {n:Nat} {a L:Addr} {C fs ctx T} {P:Unit->Shared->Prop} {E:Value->Shared->Prop} (S:SR c τ θ ρ Γ s) (hL:c.env.frame=some L) (Qg:Γ[n]?=some (some (.exc C fs ctx T))) (Pa:θ[n]?=some a)
  (k : ∀s' Ow,Le τ Ow->SR c Ow θ ρ Γ s'->P () s'):N5 (M' PG c.w) c.A (leaving c.env (.ref a)) P E s:=by
 unfold leaving;exact u' (gU S hL Qg Pa fun OU Oo Oz Ot=>er Ot (dH Qg) Pa fun Pn OW=>k _ Oo Oz (SR.jY Qg OW))
end
theorem bT.get{τ:aF}{θ}{ds:List V}{vs:List Value}(h:bT τ θ ds vs){i:Nat}{d:V}(e:ds[i]?=some d): ∃v,vs[i]?=some v/\VV τ θ d v:=Rel2.at_ h e
theorem bT.append{τ:aF}{θ}{ds:List V}{vs:List Value}{es us}(h:bT τ θ ds vs)(h2:bT τ θ es us):bT τ θ (ds++es) (vs++us):=Rel2.app h h2
theorem bz.vv{τ:aF}{θ}{ds:List D}{vs:List Value}(h:bz τ ds vs):bT τ θ (ds.map .d) vs:=Rel2.ind (P:=fun ds vs=>bT τ θ (ds.map V.d) vs) trivial (fun _ _ _ _ r _ ih=>⟨r,ih⟩) h
theorem qF{kindOf:Str->Option NameKind}{x:Str}: ∀{binds:List (Str×Value)} {m:Str->Option Value},x∉binds.map (·.1)->Vv kindOf binds m x=m x
 | [],m,_=>rfl
 |(n,v)::r,m,h=>by
  simp only[Oa,N7,not_or] at h;rw[Vv,qF h.2];split
  ·simp[h.1]
  ·rfl
theorem qB{kindOf:Str->Option NameKind}{x:Str}{u:Value}(hk:kindOf x=some .local): ∀{binds:List (Str×Value)} {m:Str->Option Value},(binds.map (·.1)).Nodup->(x,u)∈binds->Vv kindOf binds m x=some u
 |(n,v)::r,m,hn,h=>by
  simp only[Oa,Py] at hn;rw[Vv];rcases N7.mp h with e | h
  ·cases e;rw[qF hn.1,if_pos hk];simp
  ·exact qB hk hn.2 h
theorem qo{kindOf:Str->Option NameKind}{x:Str}: ∀{binds:List (Str×Value)} {m:Str->Option Value},x∉binds.map (·.1)->bindC kindOf binds m x=m x
 | [],m,_=>rfl
 |(n,v)::r,m,h=>by
  simp only[Oa,N7,not_or] at h;rw[bindC,qo h.2];split
  ·rfl
  ·simp[h.1]
theorem pW{kindOf:Str->Option NameKind}{x:Str}{u:Value}(hk:kindOf x=some .cell): ∀{binds:List (Str×Value)} {m:Str->Option Value},(binds.map (·.1)).Nodup->(x,u)∈binds->bindC kindOf binds m x=some u
 |(n,v)::r,m,hn,h=>by
  simp only[Oa,Py] at hn;rw[bindC];rcases N7.mp h with e | h
  ·cases e;rw[qo hn.1,if_neg (by rw[hk];simp)];simp
  ·exact pW hk hn.2 h
set_option tactic.hygienic true in
theorem gE{x:Str}: ∀{names:List (Str×NameKind)} {n:Nat} {acc:List (Str×Addr)},(names.lookup x=some .cell\/∃a,acc.lookup x=some a)->∃a,(PD n names acc).lookup x=some a
 | [],n,acc,h=>h.elim (fun e=>by simp at e) id
 |(y,k)::r,n,acc,h=>by
  rw[PD];split
  ·refine gE ?_
   by_cases q:x=y
   ·subst q;exact .inr ⟨n,by simp⟩
   ·rcases h with h | ⟨a,h⟩
    ·left;rw[ON,show(x==y)=false by simpa using q] at h;exact h
    ·right;refine⟨a,?_⟩;rw[ON,show(x==y)=false by simpa using q];exact h
  ·rename_i hk
   refine gE ?_
   rcases h with h | h
   ·by_cases q:x=y
    ·subst q;simp at h;subst h;exact absurd rfl hk
    ·left;rw[ON,show(x==y)=false by simpa using q] at h;exact h
   ·exact .inr h
structure FnAt(w:World)(T:Tab)(F:Fn)(S:List (Str×NameKind))(a:Addr)(o:Obj)(fd:R9):Prop where
 here : ∀h,(KK w.params).In h->h.get? a=some o/\h.CodeRec fd.code fd.qualname
 data:o.data = .func fd
 body:fd.body = .stmts (F.body.back {T with gn:=F.gl} F.ns)
 kind:fd.scope.kind = .function
 I0:fd.scope.isCoroutine=false
 ngen:fd.scope.isGenerator=false
 globals:fd.globals=mainGlobals
 builtins:fd.builtins=builtinsNs
 closure:fd.closure=[]
 sk:fd.scope.names=S
 names : ∀x∈F.ns,fd.scope.names.lookup x=some .local\/fd.scope.names.lookup x=some .cell
 once:F.ns.Nodup
 AS : ∀x k,fd.scope.names.lookup x=some k->(x==("__debug__":Str))=false/\(x==("__classdict__":Str))=false
 gl : ∀q∈F.gl,∃v,q.2 = .val v/\GV (KK w.params) q.1 v/\fd.scope.names.lookup q.1=some .globalImplicit
 np:F.np<=F.ns.length
 binds : ∀(s:Shared) (vs:List Value),(KK w.params).In s.heap->vs.length<=F.np->F.np-vs.length<=F.df.length->∃ds,ds.length=F.np-vs.length/\BindsTo s fd ⟨vs,[]⟩ ((F.ns.take F.np).zip (vs++ds))/\∀τ,bz τ (F.df.drop (F.df.length-(F.np-vs.length))) ds
structure rR(w:World)(F:Fn)(S:List (Str×NameKind))(c:Cx):Prop where
 w:c.w=w
 ns:c.ns=F.ns
 gl : ∀q∈F.gl,∃v,q.2 = .val v/\GV (KK c.w.params) q.1 v/\c.env.kindOf q.1=some .globalImplicit
 kind : ∀x,c.env.kindOf x=S.lookup x
 fk:c.env.scope.kind = .function
 frame:c.env.frame=some c.env.locals
 own : ∀x∈c.ns,c.env.kindOf x≠some .free
 room:c.A.depth+2<=301+3 * c.lv/\c.A.units+7<=10+10 * c.lv
def oE(w:World)(T:Tab)(F:Fn)(S:List (Str×NameKind))(O:aL)(n:Nat):Prop:=
 ∀c,rR w F S c->c.lv<=n->∀m:Md,(m.b=true->c.A.handled=none)->(m = .free\/m = .eS)->∀ρ Γ,Sd c RF (X7 (F.body.back {T with gn:=F.gl} F.ns) c.env) (F.body.ex {T with gn:=F.gl} O m ρ Γ) ρ Γ
structure FO(F:Fn)(fd:R9)(τ:aF)(θ:aX)(Od:aq)(ws:List Value)(N:Nat):Prop where
 len:Od.length=F.ns.length
 nodup:(((F.ns.take F.np).zip ws).map (·.1)).Nodup
 get : ∀(i:Nat) (x:Str) (v:V),F.ns[i]?=some x->Od[i]?=some (some v)->∃u,(x,u)∈(F.ns.take F.np).zip ws/\VV τ θ v u
 kind : ∀x∈(F.ns.take F.np).zip ws,fd.scope.names.lookup x.1=some .local\/(fd.scope.names.lookup x.1=some .cell/\((PD (N+1) fd.scope.names []).lookup x.1).isSome=true)
theorem xk{F:Fn}{as:List V}{Od:aq}(hs:F.start as=some Od):(as.length<=F.np/\F.np-as.length<=F.df.length)/\Od=(as++(F.df.drop (F.df.length-(F.np-as.length))).map V.d).map some++O1 (F.ns.length-F.np) none:=by
 obtain⟨q,e⟩:=cB hs;refine⟨⟨N9 (Ol.mp q).1,N9 (Ol.mp q).2⟩,(j' e).symm.trans ?_⟩
 rw[OM,Pc];rfl
theorem GP{w:World}{T:Tab}{F:Fn}{sk:List (Str×NameKind)}{a:Addr}{o fd}(hF:FnAt w T F sk a o fd){as:List V}{ds:List D}{ws:List Value}{τ:aF}{θ:aX}(hl:(as++ds.map V.d).length=F.np)(hv:bT τ θ (as++ds.map V.d) ws)(N:Nat):
  FO F fd τ θ ((as++ds.map V.d).map some++O1 (F.ns.length-F.np) none) ws N:=by
 have hn:((F.ns.take F.np).zip ws).map (·.1)=F.ns.take F.np:=by
  rw[List.map_fst_zip];rw[<-hv.length,hl,Sv];exact Nat.min_le_left _ _
 refine⟨by rw[N1,Oe,hl,Qc,PZ hF.np],by rw[hn];exact hF.once.sublist (List.take_sublist _ _),fun i x v hx hv' => ?_,fun x hx => ?_⟩
 ·by_cases hi:i<F.np
  ·rw[Pf (by rw[Oe,hl];exact hi),Oc] at hv'
   obtain⟨v',q,e⟩:=aJ hv';obtain rfl:=j' e;obtain⟨u,h1,h2⟩:=hv.get q;exact⟨u,Og (i:=i) (List.getElem?_zip_eq_some.mpr ⟨by rw[List.getElem?_take,if_pos hi];exact hx,h1⟩),h2⟩
  ·rw[Ov (by rw[Oe,hl];exact Pe hi)] at hv'
   have:=TH (Og hv');exact nomatch this
 ·have:x.1∈F.ns:=List.mem_of_mem_take (hn▸Ph (f:=Oq) hx)
  rcases hF.names _ this with e | e
  ·exact .inl e
  ·obtain⟨a,ha⟩:=gE (n:=N+1) (acc:=[]) (.inl e)
   exact .inr ⟨e,by rw[ha];rfl⟩
theorem A8{w:World}{T:Tab}{F:Fn}{sk:List (Str×NameKind)}{a:Addr}{o fd}(hF:FnAt w T F sk a o fd){env:R0}{N:Nat}(hko:env.scope=fd.scope)(hg:env.globals=fd.globals)(hb:env.builtins=fd.builtins)(hc:env.cells=PD (N+1) fd.scope.names [])(hf:env.frame=some env.locals)(hone : ∀x y a,env.cells.lookup x=some a->env.cells.lookup y=some a->x=y):oS env F.ns:=by
 have hk : ∀x,env.kindOf x=fd.scope.names.lookup x:=fun x=>by rw[<-hko];rfl
 refine⟨hko▸hF.kind,hg.trans hF.globals,hb.trans hF.builtins,fun x k e=>(hF.AS x k (hk x▸e)).1,fun x k e=>(hF.AS x k (hk x▸e)).2,fun x hx => ?_,hF.once,hone,hf⟩
 rw[hk];rcases hF.names _ hx with e | e
 ·exact .inl e
 ·exact .inr ⟨e,hc▸gE (n:=N+1) (acc:=[]) (.inl e)⟩
theorem BS {w:World} {T:Tab} {F:Fn} {sk:List (Str×NameKind)} {a:Addr} {o fd} {O:aL} {n:Nat} (hF:FnAt w T F sk a o fd) (hB:oE w T F sk O (n+1)) (hn:n<=200) {c:Cx} (hw:c.w=w) (hl:c.lv<=n) {b:Bool} {as:List V} {ρ Od:aq} {Γ:ag} (hb:b=true->c.A.handled=none)
  (hs:F.start as=some Od) (hr:(F.body.ex {T with gn:=F.gl} O (cond b .free .eS) Od Γ).out≠ .no)
  {τ θ s vs} (S:SR c τ θ ρ Γ s) (hv:bT τ θ as vs) :
  SP (M' PG c.w) c.A (.call (.ref a) ⟨vs,[]⟩) (CR (QP c τ θ RV (((F.body.ex {T with gn:=F.gl} O (cond b .free .eS) Od Γ).out.res ρ)).Q) (XP c τ θ (((F.body.ex {T with gn:=F.gl} O (cond b .free .eS) Od Γ).out.res ρ)).X)) s:=by
 subst hw;obtain⟨ho,hcd⟩:=hF.here _ S.K;obtain⟨σ,K⟩:=S.own;obtain⟨mv,hmv⟩:=K.at_ _ _ K.fr;have hroom:c.A.depth<recursionLimit:=Se S.wf.depth (by show 301+3 * c.lv<1000;exact bX (eR 3 hl) (eR 3 hn))
 obtain⟨⟨c1,c2⟩,TO⟩:=xk hs;have hlen:=hv.length;obtain⟨ds,d1,hbind,d2⟩:=hF.binds s vs S.K (hlen▸c1) (hlen▸c2);rw[<-hlen] at d2;have hfull:=hv.append ((d2 τ).vv (θ:=θ));have hst:=GP hF (by rw[N1,Oe,Pd,Ry c2,PZ c1]) hfull s.heap.objs.size
 rw[<-TO] at hst;refine Vj hroom ho hF.data hF.I0 hF.ngen hF.body hcd (hbind _ _ _ _ ?_)
 rw[hF.closure];refine TZ hF.kind hst.kind fun env he OU I => ?_
 have hE:oS env F.ns:=A8 (N:=s.heap.objs.size) hF (by rw[he];rfl) (by rw[he];rfl) (by rw[he];rfl) (by rw[he];rfl) (by rw[he];rfl) fun x y a h1 h2=>UY I.apart (mem_of_lookup h1) (mem_of_lookup h2)
 have Ot:SR (c.sub σ s.heap mv env F.ns) τ θ Od Γ OU:=enter S K hmv hE I hst.len (by obtain⟨x,hx⟩:=K.there K.fr;exact N0 S.wf.above (Oy (PC hx)))
  (fun i x v hx hv hk=>let ⟨u,h1,h2⟩:=hst.get i x v hx hv;⟨u,qB hk hst.nodup h1,h2⟩) (fun i x v hx hv hk=>let ⟨u,h1,h2⟩:=hst.get i x v hx hv;⟨u,pW hk hst.nodup h1,h2⟩)
 refine⟨?_,codeAny_func ?_⟩
 ·obtain⟨mg,mb,t1,t2,t3,t4⟩:=Ot.wf.base.T
  exact t3.keeps Ot.keep
 have hown : ∀x∈F.ns,env.kindOf x≠some .free:=fun x hx=>by
  have hko:env.kindOf x=fd.scope.names.lookup x:=by rw[he];rfl
  rw[hko];rcases hF.names x hx with e | e<;>(rw[e];simp)
 have hBC:rR c.w F sk (c.sub σ s.heap mv env F.ns):=⟨rfl,rfl,fun q hq=>let ⟨v,e1,e2,e3⟩:=hF.gl q hq;⟨v,e1,e2,by show env.kindOf q.1=_;rw[he];exact e3⟩,fun x=>by show env.kindOf x=_;rw[he,<-hF.sk];rfl,by show env.scope.kind=_;rw[he];exact hF.kind,by rw[he];rfl,hown,by exact⟨(ba S.wf.depth:c.A.depth+1+2<=301+3 * (c.lv+1)),(ba S.wf.units:c.A.units+3+7<=10+10 * (c.lv+1))⟩⟩
 have hout:=hB _ hBC (by show c.lv+1<=n+1;exact ba hl) (cond b .free .eS) (by cases b<;>simp[Md.b,Cx.sub];exact hb rfl) (by cases b<;>simp) Od Γ
 have hne:F.body.ex {T with gn:=F.gl} O (cond b .free .eS) Od Γ≠ .no:=by intro e;rw[e] at hr;exact hr rfl
 refine Ob (hout.run hne Ot) (fun f s' H => ?_) fun e s' H1 => ?_
 ·obtain⟨Ow,OT,fl,O3,Γ',l1,l2,r1,S',q⟩:=H
  have S2:=leave S K hmv ⟨l1,l2⟩ S';rw[show F.body.ex {T with gn:=F.gl} O (cond b .free .eS) Od Γ=_ from q] at hr ⊢
  cases fl with
  |next=>subst r1;exact⟨Ow,OT,.d .none,ρ,Γ',l1,l2,rfl,S2,rfl⟩
  |ret v=>obtain⟨u,rfl,r1⟩:=r1;exact⟨Ow,OT,v,ρ,Γ',l1,l2,r1,S2,rfl⟩
  |brk=>exact absurd rfl hr
  |cont=>exact absurd rfl hr
 ·obtain⟨Ow,OT,k,x,O3,Γ',l1,l2,e1,e2,S',⟨C,fs,xx,tt,ix⟩,q⟩:=H1
  subst e1;rw[show F.body.ex {T with gn:=F.gl} O (cond b .free .eS) Od Γ=_ from q] at hr ⊢
  exact u5 S' hBC.frame ix e2 fun s'' Yj l3 S''=>⟨Yj,OT,k,x,ρ,Γ',l1.trans l3,l2,rfl,e2,leave S K hmv ⟨l1.trans l3,l2⟩ S'',⟨C,fs,xx,tt,ix⟩,rfl⟩
theorem sf {w:World} {T:Tab} {fs:Nat->Option Fn} {ks:Nat->List (Str×NameKind)} (hF : ∀k F,fs k=some F->∃o fd,FnAt w T F (ks k) (T.fa.getD k 0) o fd)
  (hB : ∀k F O n,fs k=some F->n<=201->eA w T.fa O n->oE w T F (ks k) O n) : ∀n N,n+N<=200->eA w T.fa (calls T fs n) N
 |0,N,_=>fun c _ _ b k as ρ Γ _ h=>absurd rfl h
 |n+1,N,hN=>fun c hw hl b k as ρ Γ hb h τ θ s vs S hv=>by
  have ih:=sf hF hB n (N+1) (ba hN);exact RG.bt h (rfl:calls T fs (n+1) b k as Γ=_) fun F hk h e=>RG.bt h e fun Od hs h e=>by
   obtain⟨o,fd,hA⟩:=hF k F hk;rw[e];exact BS hA (hB k F _ _ hk (ba hN) ih) (ba hN) hw hl hb hs h S hv
section
abbrev SS(c:Cx)(T:Tab)(O:aL)(m:Md)(e:St):Prop := ∀ρ Γ,Sd c RF (exec (e.back T c.ns) c.env) (e.ex T O m ρ Γ) ρ Γ
abbrev ie(c:Cx)(T:Tab)(O:aL)(m:Md)(e:av):Prop := ∀ρ Γ,Sd c RF (X7 (e.back T c.ns) c.env) (e.ex T O m ρ Γ) ρ Γ
abbrev SA(c:Cx)(T:Tab)(O:aL)(m:Md)(t:Ex):Prop := ∀ρ Γ v u τ θ s,t.bC O m T v ρ Γ≠ .no->SR c τ θ ρ Γ s->VV τ θ v u->N5 (M' PG c.w) c.A (Ro (t.back T c.ns) c.env u) (QP c τ θ RU (t.bC O m T v ρ Γ).Q) (XP c τ θ (t.bC O m T v ρ Γ).X) s
theorem GL:ie c T O m .nil:=fun ρ Γ => .of fun τ θ s hn S=>Q5 (.fin (.refl _ _) (b:=Fl.next) rfl S rfl)
theorem Bs{st ss}(h1:SS c T O m st)(h2:ie c T O m ss):ie c T O m (.cons st ss):=fun ρ Γ => .of fun τ θ s hn S=>
 wpAny_execs_cons ((h1 ρ Γ).go hn S (.refl _ _) fun f OU Oo OC fl Od Oj Oz _ OL Ot n₁ OA=>by
  cases fl with
  |next=>subst OL;exact(h2 Od Oj).last n₁ Ot Oz OA
  |brk=>subst OL;exact .fin Oz (b:=Fl.brk) rfl Ot OA
  |cont=>subst OL;exact .fin Oz (b:=Fl.cont) rfl Ot OA
  |ret d=>obtain⟨u,rfl,r⟩:=OL;exact .fin Oz (b:=Fl.ret d) ⟨u,rfl,r⟩ Ot OA)
theorem JP{t a b p}(ht:iZ c T O m t)(ha:ie c T O m a)(hb:ie c T O m b):SS c T O m (.ifs t a b p):=fun ρ Γ => .of fun τ θ s hn S=>
 wpAny_If ((ht ρ Γ).go hn S (.refl _ _) fun v OU Oo OC d Od Oj Oz _ OL Ot n₁ OA=>by
  subst OL;cases v with
  |true=>exact(ha Od Oj).last n₁ Ot Oz OA
  |false=>exact(hb Od Oj).last n₁ Ot Oz OA)
theorem HW{e p}(h:SE c T O m e):SS c T O m (.ret e p):=fun ρ Γ => .of fun τ θ s hn S=>
 wpAny_Return_some ((h ρ Γ).go hn S (.refl _ _) fun u OU Oo OC d Od Oj Oz _ OL Ot n₁ OA => .fin Oz (b:=Fl.ret d) ⟨u,rfl,OL⟩ Ot OA)
theorem Gn{p}:SS c T O m (.nN p):=fun ρ Γ => .of fun τ θ s hn S=>wpAny_Return_none (.fin (.refl _ _) (b:=Fl.ret (.d .none)) ⟨_,rfl,rfl⟩ S rfl)
theorem Ic{p}:SS c T O m (.brk p):=fun ρ Γ => .of fun τ θ s hn S=>by
 show N5 _ _ (do SO (aK p);pure Flow.brk) _ _ s
 exact u' (PN (J' (.fin (.refl _ _) (b:=Fl.brk) rfl S rfl)))
theorem Hv{t a b p}(ht:iZ c T O m t)(ha:SE c T O m a)(hb:SE c T O m b):SE c T O m (.oV t a b p):=fun ρ Γ => .of fun τ θ s hn S=>
 wpAny_IfExp ((ht ρ Γ).go hn S (.refl _ _) fun v OU Oo OC d Od Oj Oz _ OL Ot n₁ OA=>by
  subst OL;cases v with
  |true=>exact(ha Od Oj).last n₁ Ot Oz OA
  |false=>exact(hb Od Oj).last n₁ Ot Oz OA)
theorem Ho{t p}(h:iZ c T O m t):iZ c T O m (.not t p):=fun ρ Γ => .of fun τ θ s hn S=>
 isTrue_not ((h ρ Γ).go hn S (.refl _ _) fun v OU Oo OC d Od Oj Oz _ OL Ot n₁ OA=>by
  subst OL;exact .fin Oz (R:=RB) rfl Ot OA)
theorem GC{x z:V}{u:Value}{τ θ s}(h:(x.of D.int?).map (fun i=>V.d (.int (-i)))=some z)(S:SR c τ θ ρ Γ s)(r:VV τ θ x u):N5 (M' PG c.w) c.A (unaryOp .USub u) (DV c τ θ ρ Γ z) bh s:=by
 obtain⟨i,q,rfl⟩:=aJ h;obtain⟨d,rfl,hx⟩:=V.of_eq q;obtain rfl:=D.cP hx;obtain⟨t,rfl⟩:=r;exact XE (.here (z := .d (.int (-i))) ⟨_,rfl⟩ (S.tok _))
theorem HA{a p}(h:SE c T O m a):SE c T O m (.neg a p):=fun ρ Γ => .of fun τ θ s hn S=>
 wpAny_UnaryOp ((h ρ Γ).go hn S (.refl _ _) fun u OU Oo OC d Od Oj Oz _ OL Ot n₁ OA=>fR n₁ OA Oz fun z h=>GC h Ot OL)
end
section
theorem NU{α:Type}{b:Bool}{o:Option α}{y:α}(h:cond b o none=some y):b=true/\o=some y:=cB h
theorem iw {τ θ s} {i:Nat} {x:Str} {d:V} {v:Value} {P:Unit->Shared->Prop} {E:Value->Shared->Prop} (S:SR c τ θ ρ Γ s) (r:VV τ θ d v) (hi:c.ns[i]?=some x) (hc:c.env.kindOf x≠some .free)
  (k : ∀s',SR c τ θ (ρ.set i (some d)) Γ s'->P () s'):N5 (M' PG c.w) c.A (storeName c.env x v) P E s:=by
 obtain⟨σ,O⟩:=S.own;have el:(ρ.set i (some d)).length=c.ns.length:=by rw[PS];exact S.rl
 rcases S.wf.vars _ (Og hi) with hk | hk | hk
 ·obtain⟨mv,h3⟩:=O.at_ _ _ O.fr
  refine wpAny_storeName_local hk h3 (fun h' hn hs=>k _ ⟨S.wf,el,⟨σ,?_⟩,S.base,S.gens,S.os⟩) (by rw[S.wf.kind];rfl)
  refine O.store S.wf hi hk r hs fun mv' hmv => ?_
  obtain rfl:=fq hmv h3;exact hn
 ·obtain⟨a,h1,h2,h3⟩:=O.cell i x hi (by rw[hk];simp)
  obtain⟨v0,h4⟩:=O.at_ _ _ h2;exact wpAny_storeName_cell S.wf.kind hk h1 h4 fun h' hn hs=>k _ ⟨S.wf,el,⟨σ,O.EW S.wf hi hk h1 r hs hn⟩,S.base,S.gens,S.os⟩
 ·exact absurd hk hc
theorem GS{i p}(hi:i<c.ns.length)(hc : ∀x,c.ns[i]?=some x->c.env.kindOf x≠some .free):SA c T O m (.var i p):=fun ρ Γ v u τ θ s hn S r=>by
 obtain⟨x,hx⟩ : ∃x,c.ns[i]?=some x:=⟨_,N8 hi⟩;rw[Ex.sI hx];exact wpAny_assign_Name (iw S r hx (hc x hx) fun s' S' => .fin (.refl _ _) (R:=RU) (b:=()) trivial S' rfl)
theorem Hd{t e p}(he:SE c T O m e)(ht:SA c T O m t)(hs : ∀l,Qi [t.back T c.ns] (e.back T c.ns) l c.env=pure false)(hw:Qu [t.back T c.ns] (e.back T c.ns) c.env=pure none)(hte:PR [t.back T c.ns] c.env=[(false,Ro (t.back T c.ns) c.env)]):
  SS c T O m (.asg t e p):=fun ρ Γ => .of fun τ θ s hn S=>by
 show N5 _ _ (do
   SO (aK p)
   if<-Qi [t.back T c.ns] (e.back T c.ns) (aK p).line c.env then do
    Vs (e.back T c.ns) c.env fun v=>W4 v ((PR [t.back T c.ns] c.env).map (·.2))
    pure .next
   else do
    let v<-Q7 (e.back T c.ns) c.env
    SQ c.env v (<-Qu [t.back T c.ns] (e.back T c.ns) c.env) ((PR [t.back T c.ns] c.env).map (·.2))) _ _ s
 refine u' (PN ?_)
 rw[hs,hw,hte];refine u' (J' ?_)
 rw[if_neg (by simp)]
 refine u' ((he ρ Γ).go hn S (.refl _ _) fun u OU Oo OC d Od Oj Oz _ OL Ot n₁ OA => ?_)
 refine u' (J' ?_)
 refine u' (m:=Ro (t.back T c.ns) c.env u) (Ob (ht Od Oj d u Oo OC OU (iR n₁) Ot OL) (fun _ Pn ⟨Pu,O5,_,PJ,PA,k₁,k₂,_,OW,q⟩ => ?_) fun e s' ⟨Ow,OT,n,a,O3,Γ',k1,k2,e1,e2,S1,ix,x⟩=>⟨Ow,OT,n,a,O3,Γ',Oz.l.trans k1,Oz.k.trans k2,e1,e2,S1,ix,?_⟩)
 ·exact J' (.fin (Oz.trans ⟨k₁,k₂⟩) (R:=RF) (b:=Fl.next) rfl OW (OA.trans (congrArg (fun r=>Res.bind r fun _ ρ Γ=>Res.ok Fl.next ρ Γ) q)))
 ·exact OA.trans (congrArg (fun r=>Res.bind r fun _ ρ Γ=>Res.ok Fl.next ρ Γ) x)
theorem sY{τ θ}: ∀{vs:List V} {us:List Value} {l:List D},iW vs=some l->bT τ θ vs us->bz τ l us:=fun{vs}=>by
 induction vs with
 |nil=>intro us l e r;injection e with e;subst e;cases us with | nil=>trivial | cons=>exact r.elim
 |cons v vs ih=>
  intro us l e r;cases us with
  |nil=>exact r.elim
  |cons u us=>
   cases v with
   |loc n=>exact aE e
   |d x=>obtain⟨l',h1,rfl⟩:=aJ e;exact⟨r.1,ih h1 r.2⟩
abbrev i7(c:Cx)(T:Tab)(O:aL)(m:Md)(es:bf):Prop := ∀ρ Γ pos,(RM (es.back T c.ns) c.env).all (fun p => !p.1)=true/\Sd c Ft (Wz (Wf pos (RM (es.back T c.ns) c.env))) (es.ev O m T ρ Γ) ρ Γ
theorem yH{vs:List V}{us:List Value}{z:V}{τ θ s}(h:(cond (ay vs.length) (iW vs) none).map (fun l=>V.d (.tup l))=some z)(S:SR c τ θ ρ Γ s)(r:bT τ θ vs us):N5 (M' PG c.w) c.A (newTuple us) (DV c τ θ ρ Γ z) bh s:=by
 obtain⟨l,hl,rfl⟩:=aJ h;obtain⟨q,q2⟩:=cB hl;exact X1 (w6 S (sY q2 r) s.toks).v (by rw[<-bT.length r];exact cN q)
theorem Hu{es p}(h:i7 c T O m es):SE c T O m (.tup es p):=fun ρ Γ => .of fun τ θ s hn S=>
 Tuple_ ((h ρ Γ _).2.go hn S (.refl _ _) fun us OU Oo OC vs Od Oj Oz _ OL Ot n₁ OA=>fR n₁ OA Oz fun z h=>yH h Ot OL)
theorem zL{vs:List V}{us:List Value}{z:V}{τ θ s}(h:(cond (ay vs.length) (iW vs) none).map (fun l=>V.d (.lst l))=some z)(S:SR c τ θ ρ Γ s)(r:bT τ θ vs us):N5 (M' PG c.w) c.A (WB us) (DV c τ θ ρ Γ z) bh s:=by
 obtain⟨l,hl,rfl⟩:=aJ h;obtain⟨q,q2⟩:=cB hl;exact Us (xU S (sY q2 r) s.toks).v (by rw[<-bT.length r];exact cN q)
theorem Iw{es p}(h:i7 c T O m es):SE c T O m (.lst es p):=fun ρ Γ => .of fun τ θ s hn S=>
 List_ ((h ρ Γ _).2.go hn S (.refl _ _) fun us OU Oo OC vs Od Oj Oz _ OL Ot n₁ OA=>fR n₁ OA Oz fun z h=>zL h Ot OL)
end
section
theorem qL(e:Ex)(T:Tab)(ns:List Str)(r:List PySem.Expr)(env:R0):RM (e.back T ns::r) env=(false,Q7 (e.back T ns) env)::RM r env:=by
 cases e<;>rfl
theorem DR:i7 c T O m .nil:=fun ρ Γ pos=>⟨rfl,.of fun τ θ s hn S=>spliced_none (.fin (.refl _ _) (R:=Ft) (b:=[]) trivial S rfl)⟩
theorem aj{e es}(h1:SE c T O m e)(h2:i7 c T O m es):i7 c T O m (.cons e es):=fun ρ Γ pos=>by
 refine⟨?_,.of fun τ θ s hn S => ?_⟩
 ·show(RM (e.back T c.ns::es.back T c.ns) c.env).all _=true
  rw[qL];exact(h2 ρ Γ pos).1
 ·exact spliced_more ((h1 ρ Γ).go hn S (.refl _ _) fun u OU Oo OC d Od Oj Oz _ OL Ot n₁ OA=>
   (h2 Od Oj pos).2.go n₁ Ot Oz (fun us Pn Pu O5 ds PJ PA PI m₂ PX OW Px O6 => .fin PI (R:=Ft) (b:=d::ds) ⟨VV.mono m₂.l m₂.k OL,PX⟩ OW O6) OA) (qL ..)
abbrev rz(c:Cx)(T:Tab)(O:aL)(m:Md)(ts:bY):Prop := ∀ρ Γ pos whole,Sd c RB (Tc (.BoolOp .And (ts.back T c.ns) pos) c.env whole) (ts.bL O m T ρ Γ) ρ Γ
abbrev q8(c:Cx)(T:Tab)(O:aL)(m:Md)(ts:bY):Prop := ∀ρ Γ pos whole,Sd c RB (Tc (.BoolOp .Or (ts.back T c.ns) pos) c.env whole) (ts.gD O m T ρ Γ) ρ Γ
theorem CQ:rz c T O m .nil:=fun ρ Γ pos whole => .of fun τ θ s hn S=>isTrue_and_nil (.fin (.refl _ _) (R:=RB) (b:=true) rfl S rfl)
theorem Bw:q8 c T O m .nil:=fun ρ Γ pos whole => .of fun τ θ s hn S=>isTrue_or_nil (.fin (.refl _ _) (R:=RB) (b:=false) rfl S rfl)
theorem yi{t ts}(h1:iZ c T O m t)(h2:rz c T O m ts):rz c T O m (.cons t ts):=fun ρ Γ pos whole => .of fun τ θ s hn S=>
 isTrue_and ((h1 ρ Γ).go hn S (.refl _ _) fun u OU Oo OC d Od Oj Oz _ OL Ot n₁ OA=>by
  subst OL;cases u with
  |true=>exact(h2 Od Oj pos whole).last n₁ Ot Oz OA
  |false=>exact .fin Oz (R:=RB) (b:=false) rfl Ot OA)
theorem zU{t ts}(h1:iZ c T O m t)(h2:q8 c T O m ts):q8 c T O m (.cons t ts):=fun ρ Γ pos whole => .of fun τ θ s hn S=>
 isTrue_or ((h1 ρ Γ).go hn S (.refl _ _) fun u OU Oo OC d Od Oj Oz _ OL Ot n₁ OA=>by
  subst OL;cases u with
  |false=>exact(h2 Od Oj pos whole).last n₁ Ot Oz OA
  |true=>exact .fin Oz (R:=RB) (b:=true) rfl Ot OA)
theorem HL{ts p}(h:rz c T O m ts):iZ c T O m (.and ts p):=fun ρ Γ=>h ρ Γ _ _
theorem J7{ts p}(h:q8 c T O m ts):iZ c T O m (.or ts p):=fun ρ Γ=>h ρ Γ _ _
theorem Ge{n:Nat}{m:Mu}(h:bq Γ n=some m):Γ[n]?=some (some m):=Th.mp h
theorem SR.c4{τ θ s}(S:SR c τ θ ρ Γ s){n:Nat}{a:Addr}{m:Mu}(Pa:θ[n]?=some a)(hg:bq Γ n=some m): ∃σ,OK c σ τ θ ρ Γ s.heap/\σ a=some (.mu m)/\At σ τ θ c.w s.heap a (.mu m):=by
 obtain⟨σ,O⟩:=S.own;have h:=O.d6 n a m (Ge hg) Pa;exact⟨σ,O,h,O.at_ _ _ h⟩
end
section
theorem bD.length{K J E:Type}{R:E->Value->Prop}{f:K->J}: ∀{ds:List (K×E)} {vs:List (J×Value)},bD R f ds vs->ds.length=vs.length:=fun{ds}=>by
 induction ds with
 |nil=>intro vs h;cases vs with
  |nil=>rfl
  |cons=>exact h.elim
 |cons d ds ih=>intro vs h;cases vs with
  |nil=>exact h.elim
  |cons v vs=>exact congrArg (· + 1) (ih h.2.2)
theorem SR.big{τ θ s}(S:SR c τ θ ρ Γ s){a:Addr}{o}{σ}(O:OK c σ τ θ ρ Γ s.heap)(e:σ a=some o)(h : ∀p,o≠ .bp p):(a==QR)=false:=by
 rw[beq_eq_false_iff_ne];rintro rfl;obtain⟨x,hx⟩:=S.wf.base.sm;have:=(O.bp _ _).mp (S.base _ _ hx);injection e.symm.trans this with this;subst this
 exact h _ rfl
theorem tF{α β:Type}{l:List α}{r:List β}(h:l.length=r.length):l.isEmpty=r.isEmpty:=by
 cases l<;>cases r<;>first | rfl | injection h
theorem D.zk{x:D}{b:Bool}(h:x.truth=some b):(x = .none/\b=false)\/x = .bool b:=by
 cases x with
 |none=>exact .inl ⟨rfl,(j' h).symm⟩
 |bool=>exact .inr (congrArg D.bool (j' h))
 |_=>exact aE h
theorem wk{n:Nat}{u:Value}{b:Bool}{τ θ s}(e:d9 Γ (.loc n)=some b)(S:SR c τ θ ρ Γ s)(r:VV τ θ (.loc n) u):N5 (M' PG c.w) c.A (X4 u) (fun x s'=>x=b/\SR c τ θ ρ Γ s') bh s:=by
 obtain⟨m,hg,e⟩:=ai e;obtain⟨l,hm,e⟩:=ai e;obtain rfl:=Mu.D2 hm;obtain⟨q,rfl⟩:=bF e;obtain⟨a,rfl,Pa⟩:=r;obtain⟨σ,K,ha,kvs,hd,hp⟩:=S.c4 Pa hg;have hl:=bD.length hp;exact wpAny_truthy_dict (S.big K ha (fun _=>nofun)) hd (Rc (P8.mpr (hl▸cN q)) (by decide)) ⟨congrArg (!·) (tF hl).symm,S.tok _⟩
theorem rn{v:V}{u:Value}{b:Bool}{τ θ s}(e:d9 Γ v=some b)(S:SR c τ θ ρ Γ s)(r:VV τ θ v u):N5 (M' PG c.w) c.A (X4 u) (fun x s'=>x=b/\SR c τ θ ρ Γ s') bh s:=by
 cases v with
 |d x=>
  rcases D.zk e with⟨rfl,rfl⟩ | rfl
  ·subst r;exact XC ⟨rfl,S⟩
  ·subst r;exact RC ⟨rfl,S⟩
 |loc n=>exact wk e S r
theorem bind_assoc{α β γ:Type}(r:Res α)(f:α->aq->ag->Res β)(g:β->aq->ag->Res γ):(r.bind f).bind g=r.bind fun a ρ Γ=>(f a ρ Γ).bind g:=by cases r<;>rfl
noncomputable def Ex.plainT(e:Ex):Bool := !(I' e.ctorIdx 9||I' e.ctorIdx 10||I' e.ctorIdx 12)
def kg(c:Cx):Prop := ∀ρ Γ op x y b u v τ θ s,iG Γ op x y=some b->SR c τ θ ρ Γ s->VV τ θ x u->VV τ θ y v->N5 (M' PG c.w) c.A (QB op u v) (fun w s'=>w = .bool b/\∃Ow,Le τ Ow/\SR c Ow θ ρ Γ s') bh s
noncomputable def Ex.mr(e:Ex):Bool:=I' e.ctorIdx 8
theorem kg.one (C:kg c) {op x y u v τ OJ θ OQ s} {b:Bool} {P:Value->Shared->Prop} {E:Value->Shared->Prop} (q:iG Γ op x y=some b) (S:SR c τ θ ρ Γ s) (l:Lq OJ OQ τ θ) (ru:VV τ θ x u) (rv:VV τ θ y v)
  (k : ∀s' Ow,Le τ Ow->Lq OJ OQ Ow θ->SR c Ow θ ρ Γ s'->P (.bool b) s'):N5 (M' PG c.w) c.A (QB op u v) P E s:=
 fA (Ob (C ρ Γ op x y b u v τ θ s q S ru rv) (fun w s' hz=>by obtain⟨e,Ow,l',S'⟩:=hz;exact e▸k s' Ow l' (l.trans ⟨l',.refl _⟩) S') fun _ _ x=>x)
theorem HD{op a b p}(ha:SE c T O m a)(hb:SE c T O m b)(hm:QZ op (b.back T c.ns)=false)(C:kg c):SE c T O m (.cmp op a b p):=fun ρ Γ => .of fun τ θ s hn S=>
 wpAny_Compare1 ((ha ρ Γ).go hn S (.refl _ _) fun u OU Oo OC x Od Oj Oz _ OL Ot n₁ OA=>
  (hb Od Oj).go n₁ Ot Oz (fun v Pn Pu O5 y PJ PA PI m₂ PX OW Px O6=>by
   obtain⟨_,hx,O6⟩:=ig Px O6;obtain⟨b,q,rfl⟩:=aJ hx;exact C.one q OW PI (VV.mono m₂.l m₂.k OL) PX fun s' Ow _ l' S' => .fin l' (R:=RV) (b := .d (.bool b)) rfl S' O6) OA) hm
theorem G8{o:Option V}{Γ:ag}{ρ:aq}:(Res.opt ρ Γ o).bind (fun v ρ Γ => .opt ρ Γ (d9 Γ v)) = .opt ρ Γ (o.bind (d9 Γ)):=by cases o<;>rfl
theorem Az{op a b p}:(Te.val (.cmp op a b p)).ev O m T ρ Γ=(a.ev O m T ρ Γ).bind fun x ρ Γ=>(b.ev O m T ρ Γ).bind fun y ρ Γ => .opt ρ Γ (iG Γ op x y):=by
 refine(bind_assoc _ _ _).trans (congrArg (Res.bind _) (funext fun x=>funext fun ρ=>funext fun Γ=>(bind_assoc _ _ _).trans (congrArg (Res.bind _) (funext fun y=>funext fun ρ=>funext fun Γ=>G8.trans ?_))))
 cases iG Γ op x y<;>rfl
theorem H7{op a b p}(ha:SE c T O m a)(hb:SE c T O m b)(hm:QZ op (b.back T c.ns)=false)(C:kg c):iZ c T O m (.val (.cmp op a b p)):=fun ρ Γ => .of fun τ θ s hn S=>
 wpAny_isTrue_Compare1 ((ha ρ Γ).go (Az▸hn) S (.refl _ _) (fun u OU Oo OC x Od Oj Oz _ OL Ot n₁ OA=>
  (hb Od Oj).go n₁ Ot Oz (fun v Pn Pu O5 y PJ PA PI m₂ PX OW Px O6=>by
   obtain⟨b,q,O6⟩:=ig Px O6;exact C.one q OW PI (VV.mono m₂.l m₂.k OL) PX fun s' Ow _ l' S'=>RC (.fin l' (R:=RB) (b:=b) rfl S' O6)) OA) Az) hm
theorem CO(T:Tab)(ns:List Str)(env:R0)(whole:Su Value): ∀{e:Ex},e.plainT=true->e.mr=false->Tc (e.back T ns) env whole=(do let v<-whole;SO (e.back T ns).pos;holding [v] (X4 v)):=fun{e} hp hc=>by
 cases e with
 |cmp=>exact H' hc
 |ny=>exact H' hp
 |tY=>exact H' hp
 |oV=>exact H' hp
 |_=>rfl
theorem CS{e}(h:SE c T O m e)(hp:e.plainT=true)(hc:e.mr=false):iZ c T O m (.val e):=fun ρ Γ => .of fun τ θ s hn S=>
 isTrue_plain ((h ρ Γ).go hn S (.refl _ _) fun u OU Oo OC d Od Oj Oz _ OL Ot n₁ OA=>by
  obtain⟨b,q,OA⟩:=ig n₁ OA;exact fA (Ob (rn q Ot OL) (fun x s' hz=>by obtain⟨e,S'⟩:=hz;subst e;exact .fin Oz (R:=RB) rfl S' OA) fun _ _ x=>x)) (CO _ _ _ _ hp hc)
theorem Ex.yS{e:Ex}(h:e.mr=true): ∃op a b p,e = .cmp op a b p:=by
 cases e with
 |cmp op a b p=>exact⟨op,a,b,p,rfl⟩
 |_=>exact H' h
theorem Im{e}(h:SE c T O m e)(hp:e.plainT=true)(hc : ∀op a b p,e = .cmp op a b p->SE c T O m a/\SE c T O m b/\QZ op (b.back T c.ns)=false)(C:kg c):iZ c T O m (.val e):=by
 cases q:e.mr with
 |false=>exact CS h hp q
 |true=>
  obtain⟨op,a,b,p,he⟩:=Ex.yS q;obtain⟨ha,hb,hm⟩:=hc _ _ _ _ he;exact he▸H7 ha hb hm C
theorem B5{a o1 b o2 d p}(ha:SE c T O m a)(hb:SE c T O m b)(hd:SE c T O m d)(hm:lastMarks [o1,o2] [b.back T c.ns,d.back T c.ns]=false)(C:kg c):iZ c T O m (.chain a o1 b o2 d p):=fun ρ Γ => .of fun τ θ s hn S=>
 isTrue_chain ((ha ρ Γ).go hn S (.refl _ _) fun u OU Oo OC x Od Oj Oz _ OL Ot n₁ OA=>
  test_link ((hb Od Oj).go n₁ Ot Oz (fun v Pn Pu O5 y PJ PA PI m₂ PX OW Px O6=>by
   refine bt Px O6 fun k qc Px O6=>C.one qc OW PI (VV.mono m₂.l m₂.k OL) PX fun s' Ow l' RO S'=>RC ?_
   cases k with
   |false=>exact .fin RO (R:=RB) (b:=false) rfl S' O6
   |true=>
    exact test_last ((hd PJ PA).go Px S' RO (fun z Sg YJ YK zz YL YM Yk Xh Yl Sh Tt Si=>by
      obtain⟨k2,q,Si⟩:=ig Tt Si;exact C.one q Sh Yk (VV.mono (l'.trans Xh.l) Xh.k PX) Yl fun s' Ow _ l' S'=>RC (.fin l' (R:=RB) (b:=k2) rfl S' Si)) O6)) OA)) hm
end
section
theorem le_dec{a b:Int}:decide (a<=b)=mV a b:=by
 rw[Pz,CA];simp
theorem xu{a b:Int}:decide (a<b) = !mV b a:=by
 rw[<-le_dec];by_cases h:a<b
 ·simp[h,Tq.mpr h]
 ·simp[h,Sf.mp h]
theorem mS : ∀(a b:Tx),(b<a)↔kv a b=false
 | [],b=>by simp[vS,wa,rt]
 |a::x,[]=>by simp[vS,wa,rt]
 |a::x,b::y=>by
  rw[rt,List.cons_lt_cons_iff,mS x y];cases h:I' a b with
  |true=>have:=N2 h;subst this;simp
  |false=>
   have hne:=PM h;simp only[cond_false,PF hne,false_and,or_false];rw[<-Rx,O4];exact Nat.not_le.symm
theorem Bm(x y:Tx):(!decide (y<x))=kv x y:=by
 have:=mS x y;cases q:kv x y<;>simp[this,q]
def gG(c:Cx)(τ:aF)(θ:aX)(ρ:aq)(Γ:ag)(b:Bool):Value->Shared->Prop:=fun w s'=>w = .bool b/\∃Ow,Le τ Ow/\SR c Ow θ ρ Γ s'
theorem gG.here{τ θ s b}(S:SR c τ θ ρ Γ s):gG c τ θ ρ Γ b (.bool b) s:=⟨rfl,τ,.refl _,S⟩
theorem gG.of{τ θ s b b'}(S:SR c τ θ ρ Γ s)(e:b'=b):gG c τ θ ρ Γ b (.bool b') s:=e▸ .here S
theorem C0{op:Rp}{a b:Int}{t t':XA}{r:Bool}{τ θ s}(e:Gu op a b=some r)(S:SR c τ θ ρ Γ s):N5 (M' PG c.w) c.A (QB op (.int a t) (.int b t')) (gG c τ θ ρ Γ r) bh s:=by
 cases op with
 |Lt=>injection e with e;subst e;exact XH (.of S xu)
 |LtE=>injection e with e;subst e;exact XJ (.of S le_dec)
 |Gt=>injection e with e;subst e;exact XN (.of S xu)
 |GtE=>injection e with e;subst e;exact XO (.of S le_dec)
 |_=>exact aE e
theorem BW{op:Rp}{a b:Tx}{t t':XA}{r:Bool}{τ θ s}(e:Ei op a b=some r)(S:SR c τ θ ρ Γ s):N5 (M' PG c.w) c.A (QB op (.str (aP a) t) (.str (aP b) t')) (gG c τ θ ρ Γ r) bh s:=by
 cases op with
 |LtE=>injection e with e;subst e;exact PySem.P.le_str (.of S (Bm a b))
 |_=>exact aE e
theorem Cm{op:Rp}{x y:D}{r:Bool}{u v:Value}{τ θ s}(e:zd op x y=some r)(S:SR c τ θ ρ Γ s)(hx:VR τ x u)(hy:VR τ y v):N5 (M' PG c.w) c.A (QB op u v) (gG c τ θ ρ Γ r) bh s:=by
 cases x with
 |int a=>
  obtain⟨b,h,e⟩:=ai e;obtain rfl:=D.cP h;obtain⟨t,rfl⟩:=hx;obtain⟨t',rfl⟩:=hy;exact C0 e S
 |str a=>
  obtain⟨b,h,e⟩:=ai e;obtain rfl:=D.cC h;obtain⟨t,rfl⟩:=hx;obtain⟨t',rfl⟩:=hy;exact BW e S
 |_=>exact aE e
theorem BI{op:Rp}{x y:V}{r:Bool}{u v:Value}{τ θ s}(e:(x.d?.bind fun x=>y.d?.bind fun y=>zd op x y)=some r)(S:SR c τ θ ρ Γ s)(hx:VV τ θ x u)(hy:VV τ θ y v):N5 (M' PG c.w) c.A (QB op u v) (gG c τ θ ρ Γ r) bh s:=by
 obtain⟨a,h1,e⟩:=ai e;obtain⟨b,h2,e⟩:=ai e;obtain rfl:=V.cf h1;obtain rfl:=V.cf h2;exact Cm e S hx hy
end
section
open PySem.SeqAt
section
theorem lI{f:D->D->Option Bool}{a b:D}{x y:List D}{r:Bool}(h:eg f (a::x) (b::y)=some r): ∃p q,f a b=some p/\eg f x y=some q/\(p&&q)=r:=by
 obtain⟨p,h1,h⟩:=ai h;obtain⟨q,h2,h3⟩:=aJ h;exact⟨p,q,h1,h2,h3⟩
noncomputable def Ax(p:Bool)(e:Nat->Bool):Nat->Bool
 |0=>p
 |j+1=>e j
theorem wh(p:Bool)(e:Nat->Bool)(n:Nat):(OX (n+1)).all (Ax p e)=(p&&(OX n).all e):=by
 rw[List.range_succ_eq_map,Rl,List.all_map];rfl
theorem y8{f:D->D->Option Bool}{x:List D}: ∀{y:List D} {r:Bool},eg f x y=some r->∃e:Nat->Bool,(∀(j:Nat) a b,x[j]?=some a->y[j]?=some b->f a b=some (e j))/\(OX x.length).all e=r/\x.length=y.length:=by
 induction x with
 |nil=>intro y r h;obtain⟨h1,h2⟩:=bF h;exact⟨fun _=>true,fun j a b h=>aE h,h2,by rw[QF.mp h1]⟩
 |cons a x ih=>
  intro y r h;cases y with
  |nil=>exact aE h
  |cons b y=>
   obtain⟨p,q,h1,h2,rfl⟩:=lI h;obtain⟨e,e1,e2,e3⟩:=ih h2;refine⟨Ax p e,fun j a' b' ha hb => ?_,by rw[<-e2];exact wh _ _ _,congrArg (· + 1) e3⟩
   cases j with
   |zero=>injection ha with ha;subst ha;injection hb with hb;subst hb;exact h1
   |succ j=>exact e1 j a' b' ha hb
theorem qw{f:D->D->Option Bool}(hf : ∀a r,f a a=some r->r=true){x:List D}: ∀{r:Bool},eg f x x=some r->r=true:=by
 induction x with
 |nil=>intro r h;exact(j' h).symm
 |cons a x ih=>
  intro r h;obtain⟨p,q,h1,h2,rfl⟩:=lI h;rw[hf _ _ h1,ih h2];rfl
inductive ed:D->D->Bool->Prop
 |nn:ed .none .none true
 |ns {b}:ed .none (.str b) false
 |nb {b}:ed .none (.bool b) false
 |bb {a b}:ed (.bool a) (.bool b) (a==b)
 |bn {b}:ed (.bool b) .none false
 |ii {a b}:ed (.int a) (.int b) (gw a b)
 |is {a b}:ed (.int a) (.str b) false
 |ss {a b}:ed (.str a) (.str b) (ao a b)
 |sn {b}:ed (.str b) .none false
 |si {a b}:ed (.str a) (.int b) false
theorem ed.to{x y:D}{a r:Bool}(h:ed x y a)(e:some a=some r):ed x y r:=j' e▸h
theorem ud{x y:D}{r:Bool}(h:wF x y=some r):ed x y r:=by
 cases x with
 |none=>cases y with
  |none=>exact ed.nn.to h
  |str=>exact ed.ns.to h
  |bool=>exact ed.nb.to h
  |_=>exact aE h
 |bool=>cases y with
  |none=>exact ed.bn.to h
  |bool=>exact ed.bb.to h
  |_=>exact aE h
 |int=>cases y with
  |int=>exact ed.ii.to h
  |str=>exact ed.is.to h
  |_=>exact aE h
 |str=>cases y with
  |str=>exact ed.ss.to h
  |none=>exact ed.sn.to h
  |int=>exact ed.si.to h
  |_=>exact aE h
 |_=>exact aE h
structure l7(A:Around)(s:Shared)(u v:Value)(r:Bool):Prop where
 rc:RcAt A s u v r
 eq:EqAt A s u v r
 ne:RcNeAt A s u v (!r)
theorem ed.at{τ s}{a b:D}{r:Bool}(h:ed a b r){u v:Value}(ha:VR τ a u)(hb:VR τ b v)(A:Around):l7 A s u v r:=by
 cases h with
 |nn=>subst ha;subst hb;exact⟨RcAt.none_none,EqAt.same _,RcNeAt.none_none⟩
 |bb=>subst ha;subst hb;exact⟨RcAt.bool_bool _ _,EqAt.bool_bool _ _,RcNeAt.bool_bool _ _⟩
 |ii=>obtain⟨t,rfl⟩:=ha;obtain⟨t',rfl⟩:=hb;rw[<-CP];exact⟨RcAt.int_int _ _ _ _,EqAt.int_int _ _ _ _,RcNeAt.int_int _ _ _ _⟩
 |ss=>obtain⟨t,rfl⟩:=ha;obtain⟨t',rfl⟩:=hb;rw[<-FN];exact⟨RcAt.str_str _ _ _ _,EqAt.str_str _ _ _ _,RcNeAt.str_str _ _ _ _⟩
 |ns=>subst ha;obtain⟨t',rfl⟩:=hb;exact⟨RcAt.none_str _ _,EqAt.none_str _ _,RcNeAt.none_str _ _⟩
 |sn=>subst hb;obtain⟨t',rfl⟩:=ha;exact⟨RcAt.str_none _ _,EqAt.str_none _ _,RcNeAt.str_none _ _⟩
 |nb=>subst ha;subst hb;exact⟨RcAt.none_bool _,EqAt.none_bool _,RcNeAt.none_bool _⟩
 |bn=>subst ha;subst hb;exact⟨RcAt.bool_none _,EqAt.bool_none _,RcNeAt.bool_none _⟩
 |is=>obtain⟨t,rfl⟩:=ha;obtain⟨t',rfl⟩:=hb;exact⟨RcAt.int_str _ _ _ _,EqAt.int_str _ _ _ _,RcNeAt.int_str _ _ _ _⟩
 |si=>obtain⟨t,rfl⟩:=ha;obtain⟨t',rfl⟩:=hb;exact⟨RcAt.str_int _ _ _ _,EqAt.str_int _ _ _ _,RcNeAt.str_int _ _ _ _⟩
theorem dz(x:Tx):ao x x=true:=(fD _ _).mpr rfl
theorem nE(x:Int):gw x x=true:=(lW _ _).mpr rfl
theorem iU(a:D)(r:Bool)(h:wF a a=some r):r=true:=by
 cases a with
 |none=>exact(j' h).symm
 |bool b=>exact(j' h).symm.trans (beq_self_eq_true b)
 |int i=>exact(j' h).symm.trans (nE i)
 |str x=>exact(j' h).symm.trans (dz x)
 |_=>exact aE h
theorem nC(n:Nat): ∀(a:D) (r:Bool),cg n a a=some r->r=true:=by
 induction n with
 |zero=>exact iU
 |succ n ih=>
  intro a r h;cases a with
  |tup l=>exact qw ih (cB h).2
  |lst l=>
   have h:cond (I' l.length l.length) (eg (cg n) l l) (some false)=some r:=h;rw[OZ] at h;exact qw ih h
  |none=>exact iU .none r h
  |bool b=>exact iU (.bool b) r h
  |int i=>exact iU (.int i) r h
  |str x=>exact iU (.str x) r h
  |_=>exact aE h
def lz(τ:aF)(s:Shared)(n:Nat):Prop := ∀a b r,cg n a b=some r->∀u v,VR τ a u->VR τ b v->∀A:Around,A.units+n<RZ->l7 A s u v r
theorem bz.size{τ:aF}{x:List D}{vs:Array Value}(h:bz τ x vs.toList):x.length=vs.size:=h.length.trans PH
theorem lz.rows{τ s n}(ih:lz τ s n){A:Around}(hA:A.units+1+n<RZ){x y:List D}{r':Bool}{vs ws:Array Value}(q:eg (cg n) x y=some r')(hx:bz τ x vs.toList)(hy:bz τ y ws.toList):
  ∃e:Nat->Bool,(∀j (h1:j<vs.size) (h2:j<ws.size),EqAt A.in1 s vs[j] ws[j] (e j))/\(OX vs.size).all e=r'/\vs.size=ws.size:=by
 obtain⟨e,h1,h2,h3⟩:=y8 q;rw[hx.size] at h2;refine⟨e,fun j j1 j2 => ?_,h2,hx.size.symm.trans (h3.trans hy.size)⟩
 obtain⟨da,p1,p2⟩:=hx.get' (i:=j) (v:=vs[j]) (by simp[j1])
 obtain⟨db,p3,p4⟩:=hy.get' (i:=j) (v:=ws[j]) (by simp[j2])
 exact(ih _ _ _ (h1 j _ _ p1 p3) _ _ p2 p4 A.in1 hA).eq
theorem l7.refs{A:Around}{s p p' r}(R:RcAt A s (.ref p) (.ref p') r)(R':RcNeAt A s (.ref p) (.ref p') (!r))(h:p=p'->r=true):l7 A s (.ref p) (.ref p') r:=by
 refine⟨R,?_,R'⟩
 by_cases q:p=p'
 ·cases h q;subst q;exact EqAt.same _
 ·exact EqAt.of_refs q R
theorem lz.JO{τ s n}(ih:lz τ s n){A:Around}(hA:A.units+1+n<RZ){x y:List D}{r:Bool}{p p':Addr}{vs ws:Array Value}(h:eg (cg n) x y=some r)(t1:UL s.heap p vs)(t2:bz τ x vs.toList)(t3:UL s.heap p' ws)(t4:bz τ y ws.toList):RcAt A s (.ref p) (.ref p') r/\RcNeAt A s (.ref p) (.ref p') (!r):=by
 obtain⟨e,e1,e2,e3⟩:=ih.rows hA h t2 t4;have hu:A.units<RZ:=ba hA;have b:((OX (min vs.size ws.size)).all e&&vs.size==ws.size)=r:=by rw[<-e3,Nat.min_self,e2,beq_self_eq_true,Bool.and_true]
 exact⟨b▸RcAt.tuples (A:=A) t1 t3 hu e1,b▸RcNeAt.tuples (A:=A) t1 t3 hu e1⟩
theorem lz.lists {τ s n} (ih:lz τ s n) {A:Around} (hA:A.units+1+n<RZ) {x y:List D} {r:Bool} {l b:Addr} {vs ws:Array Value} (h:cond (I' x.length y.length) (eg (cg n) x y) (some false)=some r)
  (t1:s.heap.IsList l vs) (t2:bz τ x vs.toList) (t3:s.heap.IsList b ws) (t4:bz τ y ws.toList):RcAt A s (.ref l) (.ref b) r/\RcNeAt A s (.ref l) (.ref b) (!r):=by
 have hu:A.units<RZ:=ba hA;cases q:I' x.length y.length with
 |false=>
  rw[q] at h;cases h;have hz:(vs.size != ws.size)=true:=by rw[<-t2.size,<-t4.size];exact bne_iff_ne.mpr (PM q)
  exact⟨RcAt.lists_lengths t1 t3 hz hu,RcNeAt.lists_lengths t1 t3 hz hu⟩
 |true=>
  rw[q] at h;obtain⟨e,e1,e2,e3⟩:=ih.rows hA h t2 t4;exact⟨e2▸RcAt.lists (A:=A) t1 t3 e3 hu e1,e2▸RcNeAt.lists (A:=A) t1 t3 e3 hu e1⟩
theorem Kt{n:Nat}{x:List D}{r:Bool}(h:cond (I' x.length x.length) (eg (cg n) x x) (some false)=some r):r=true:=nC (n+1) (.lst x) r h
theorem lz.tup{τ θ s n}(S:SR c τ θ ρ Γ s)(ih:lz τ s n){A:Around}(hA:A.units+1+n<RZ){x y:List D}{r:Bool}{u v:Value}(h:cg (n+1) (.tup x) (.tup y)=some r)(ha:VR τ (.tup x) u)(hb:VR τ (.tup y) v):l7 A s u v r:=by
 obtain⟨p,rfl,hp⟩:=ha;obtain⟨p',rfl,hp'⟩:=hb;obtain⟨vs,t1,t2⟩:=S.fY hp;obtain⟨ws,t3,t4⟩:=S.fY hp';have R:=ih.JO hA (cB h).2 t1 t2 t3 t4;exact .refs R.1 R.2 fun e=>by subst e;rw[hp] at hp';cases hp';exact nC _ _ _ h
theorem lz.lst{τ θ s n}(S:SR c τ θ ρ Γ s)(ih:lz τ s n){A:Around}(hA:A.units+1+n<RZ){x y:List D}{r:Bool}{u v:Value}(h:cg (n+1) (.lst x) (.lst y)=some r)(ha:VR τ (.lst x) u)(hb:VR τ (.lst y) v):l7 A s u v r:=by
 obtain⟨p,rfl,hp⟩:=ha;obtain⟨p',rfl,hp'⟩:=hb;obtain⟨vs,t1,t2⟩:=S.eY hp;obtain⟨ws,t3,t4⟩:=S.eY hp';have R:=ih.lists hA h t1 t2 t3 t4;obtain⟨_,hp⟩:=hp;obtain⟨_,hp'⟩:=hp';exact .refs R.1 R.2 fun e=>by subst e;rw[hp] at hp';cases hp';exact nC _ _ _ h
theorem n6{τ θ s}(S:SR c τ θ ρ Γ s)(n:Nat):lz τ s n:=by
 induction n with
 |zero=>exact fun a b r h u v ha hb A hA=>(ud h).at ha hb A
 |succ n ih=>
  intro a b r h u v ha hb A hA;have hA:A.units+1+n<RZ:=ba hA;cases a with
  |tup x=>
   obtain⟨y,hy,_⟩:=ai h;obtain rfl:=D.gR hy;exact ih.tup S hA h ha hb
  |lst x=>
   obtain⟨y,hy,_⟩:=ai h;obtain rfl:=D.eQ hy;exact ih.lst S hA h ha hb
  |_=>refine ed.at ?_ ha hb A;exact ud h
end
end
section
open PySem.SeqAt
section
theorem yx{k:D}{l:List D}: ∀{r:Bool},iA k l=some r->(∀d∈l,∃b,cg 9 d k=some b)/\r=l.any fun d=>cg 9 d k==some true:=by
 induction l with
 |nil=>intro r h;exact⟨fun d h=>(nomatch h),(j' h).symm⟩
 |cons a x ih=>
  intro r h;obtain⟨p,hp,h⟩:=ai h;obtain⟨q,hq,rfl⟩:=aJ h;obtain⟨h1,h2⟩:=ih hq;refine⟨fun d hd => ?_,?_⟩
  ·rcases N7.mp hd with rfl | hd
   ·exact⟨_,hp⟩
   ·exact h1 d hd
  ·rw[Rk,<-h2,hp];cases p<;>rfl
noncomputable def Gv:Pt->Option D
 | .tup l=>some (.tup l)
 | .lst l _=>some (.lst l)
 |_=>none
noncomputable def dec(τ:aF):Value->Option D
 | .none=>some .none
 | .bool b=>some (.bool b)
 | .int i _=>some (.int i)
 | .str x _=>some (.str (cps x))
 | .ref a=>(τ a).bind Gv
 |_=>none
noncomputable def D.Dt:D->Bool
 | .bH _=>false
 | .gs _=>false
 | .eF .. => false
 | .val _=>false
 |_=>true
theorem VR.dec{τ d y}(h:VR τ d y)(e:d.Dt=true):dec τ y=some d:=by
 cases d with
 |none=>subst h;rfl
 |bool=>subst h;rfl
 |int=>obtain⟨t,rfl⟩:=h;rfl
 |str x=>obtain⟨t,rfl⟩:=h;exact congrArg (fun x=>some (D.str x)) (uf x)
 |tup l=>obtain⟨a,rfl,h⟩:=h;exact congrArg (·.bind Gv) h
 |lst l=>obtain⟨a,rfl,pin,h⟩:=h;exact congrArg (·.bind Gv) h
 |_=>exact H' e
theorem Cz{d k b}(h:wF d k=some b):d.Dt=true:=by
 cases d with
 |bH=>exact aE h
 |gs=>exact aE h
 |eF=>exact aE h
 |val=>exact aE h
 |_=>rfl
theorem tT{d k b}(h:cg 9 d k=some b):d.Dt=true:=by
 cases d with
 |tup=>rfl
 |lst=>rfl
 |_=>refine Cz (k:=k) (b:=b) ?_;exact h
theorem VR.one{τ d d' y k b b'}(h:VR τ d y)(h':VR τ d' y)(e:cg 9 d k=some b)(e':cg 9 d' k=some b'):d=d':=j' ((h.dec (tT e)).symm.trans (h'.dec (tT e')))
theorem bz.mem{τ:aF}{ds:List D}: ∀{vs:List Value},bz τ ds vs->∀{v},v∈vs->∃d∈ds,VR τ d v:=by
 induction ds with
 |nil=>intro vs h v hv;cases vs with
  |nil=>exact nomatch hv
  |cons=>exact h.elim
 |cons d ds ih=>intro vs h u hu;cases vs with
  |nil=>exact h.elim
  |cons v vs=>
   rcases N7.mp hu with rfl | hu
   ·exact⟨d,.head _,h.1⟩
   ·obtain⟨d',h1,h2⟩:=ih h.2 hu;exact⟨d',.tail _ h1,h2⟩
theorem bz.J8{τ:aF}{ds:List D}: ∀{vs:List Value},bz τ ds vs->∀{d},d∈ds->∃v∈vs,VR τ d v:=by
 induction ds with
 |nil=>intro vs h v hv;exact nomatch hv
 |cons d ds ih=>intro vs h u hu;cases vs with
  |nil=>exact h.elim
  |cons v vs=>
   rcases N7.mp hu with rfl | hu
   ·exact⟨v,.head _,h.1⟩
   ·obtain⟨d',h1,h2⟩:=ih h.2 hu;exact⟨d',.tail _ h1,h2⟩
theorem xE{τ θ s}(S:SR c τ θ ρ Γ s){A:Around}(hA:A.units+10<RZ){k:D}{l:List D}{r:Bool}{x:Value}{vs:Array Value}(h:iA k l=some r)(hl:bz τ l vs.toList)(hk:VR τ k x):
  ∃e:Value->Bool,(∀y,y∈vs->EqAt A.in1 s y x (e y))/\vs.any e=r:=by
 classical
 obtain⟨h1,h2⟩:=yx h;refine⟨fun y=>decide (∃d∈l,VR τ d y/\cg 9 d k=some true),fun y hy => ?_,?_⟩
 ·obtain⟨d,hd,hv⟩:=hl.mem (Ud.mpr hy)
  obtain⟨b,hb⟩:=h1 d hd;have:=(n6 S 9 d k b hb y x hv hk A.in1 (by show A.units+1+9<RZ;assumption)).eq
  show EqAt A.in1 s y x (decide (∃d∈l,VR τ d y/\cg 9 d k=some true))
  rw[show decide (∃d∈l,VR τ d y/\cg 9 d k=some true)=b from ?_]
  ·exact this
  ·cases b with
   |true=>exact decide_eq_true ⟨d,hd,hv,hb⟩
   |false=>
    refine decide_eq_false ?_
    rintro⟨d',_,hv',hb'⟩;have:=VR.one hv hv' hb hb';subst this;rw[hb] at hb';cases hb'
 ·rw[h2,Pz,<-Array.any_toList]
  simp only[QH,decide_eq_true_eq,beq_iff_eq];constructor
  ·rintro⟨y,_,d,hd,_,e⟩;exact⟨d,hd,e⟩
  ·rintro⟨d,hd,e⟩
   obtain⟨v,hv,r⟩:=hl.J8 hd;exact⟨v,hv,d,hd,r,e⟩
theorem tE{K:Type} [DecidableEq K]{p:K×Value}{l:List (K×Value)}{k:K}(h:p.1=k):Qd (p::l) k=some p.2:=by simp[Qd,h]
theorem r5{K:Type} [DecidableEq K]{p:K×Value}{l:List (K×Value)}{k:K}(h:p.1≠k):Qd (p::l) k=Qd l k:=by simp[Qd,h]
theorem bD.AG{E K J:Type} [DecidableEq J]{R:E->Value->Prop}{f:K->J}{beq:K->K->Bool}(hb : ∀a b,beq a b=true↔f a=f b){look:List (K×E)->Option E}{k:K}(p0:look []=none)(p1 : ∀x l,look (x::l)=cond (beq k x.1) (some x.2) (look l)){l:List (K×E)}{kvs:List (J×Value)}:bD R f l kvs->(∀e,look l=some e->∃v,Qd kvs (f k)=some v/\R e v)/\(look l=none->Qd kvs (f k)=none):=
 bD.ind (P:=fun l kvs=>(∀e,look l=some e->∃v,Qd kvs (f k)=some v/\R e v)/\(look l=none->Qd kvs (f k)=none)) ⟨fun _ h=>aE (p0.symm.trans h),fun _=>rfl⟩ fun p q as bs hk hv _ ih=>
  match e:beq k p.1 with
  |true=>
   have hl:look (p::as)=some p.2:=(p1 p as).trans (congrArg (cond · _ _) e)
   ⟨fun d h=>⟨q.2,tE (hk.symm.trans ((hb _ _).mp e).symm),j' (hl.symm.trans h)▸hv⟩,fun h=>aE (h.symm.trans hl)⟩
  |false=>
   have hl:look (p::as)=look as:=(p1 p as).trans (congrArg (cond · _ _) e);have hq:Qd (q::bs) (f k)=Qd bs (f k):=r5 fun h=>H' (e.symm.trans ((hb _ _).mpr (hk.trans h).symm))
   ⟨fun d h=>(ih.1 d (hl.symm.trans h)).imp fun _ h=>⟨hq.trans h.1,h.2⟩,fun h=>hq.trans (ih.2 (hl.symm.trans h))⟩
theorem bD.look{E:Type}{R:E->Value->Prop}{k:Tx}{l:List (Tx×E)}{kvs:List (Str×Value)}:bD R aP l kvs->(∀e,bw k l=some e->∃v,Qd kvs (aP k)=some v/\R e v)/\(bw k l=none->Qd kvs (aP k)=none):=
 bD.AG (beq:=ao) (look:=bw k) (fun a b=>(fD a b).trans ⟨congrArg _,mx⟩) rfl fun _ _=>rfl
theorem bD.dK{E:Type}{R:E->Value->Prop}{k:Int}{l:List (Int×E)}{kvs:List (Int×Value)}:bD R id l kvs->(∀e,Mine.dK k l=some e->∃v,Qd kvs (id k)=some v/\R e v)/\(Mine.dK k l=none->Qd kvs (id k)=none):=
 bD.AG (f:=id) (beq:=gw) (look:=Mine.dK k) (fun a b=>lW a b) rfl fun _ _=>rfl
theorem pY{E:Type}{R:E->Value->Prop}{k:Tx}{l:List (Tx×E)}{kvs:List (Str×Value)}(h:bD R aP l kvs):(Qd kvs (aP k)).isSome=(bw k l).isSome:=by
 obtain⟨h1,h2⟩:=bD.look (k:=k) h;cases q:bw k l with
 |none=>rw[h2 q];rfl
 |some e=>obtain⟨v,hv,_⟩:=h1 e q;rw[hv];rfl
theorem oN{E:Type}{R:E->Value->Prop}{k:Int}{l:List (Int×E)}{kvs:List (Int×Value)}(h:bD R id l kvs):(Qd kvs k).isSome=(Mine.dK k l).isSome:=by
 obtain⟨h1,h2⟩:=bD.dK (k:=k) h;cases q:Mine.dK k l with
 |none=>exact congrArg S0 (h2 q)
 |some e=>obtain⟨v,hv,_⟩:=h1 e q;exact congrArg S0 hv
theorem SR.mm{τ θ s a p}(S:SR c τ θ ρ Γ s)(h:τ a=some p): ∃σ,OK c σ τ θ ρ Γ s.heap/\At σ τ θ c.w s.heap a (.bp p):=by
 obtain⟨σ,O⟩:=S.own;exact⟨σ,O,O.at_ _ _ ((O.bp _ _).mp h)⟩
theorem SR.rW{τ θ s a p}(S:SR c τ θ ρ Γ s)(h:τ a=some p)(hp : ∀o,p≠ .obj o):(a==QR)=false:=by
 rw[beq_eq_false_iff_ne];rintro rfl;obtain⟨x,hx⟩:=S.wf.base.sm;rw[S.base _ _ hx] at h;injection h with h;subst h
 exact hp _ rfl
def xp(c:Cx)(τ:aF)(θ:aX)(ρ:aq)(Γ:ag)(s:Shared)(u v:Value)(b:Bool):Prop:=N5 (M' PG c.w) c.A (QB .In u v) (gG c τ θ ρ Γ b) bh s/\N5 (M' PG c.w) c.A (QB .NotIn u v) (gG c τ θ ρ Γ (!b)) bh s
theorem rj{E:Type}{R:E->Value->Prop}{τ θ s}(S:SR c τ θ ρ Γ s){a:Addr}{k:Tx}{l:List (Tx×E)}{kvs t}(hs:(a==QR)=false)(d:Uj (strKind PG c.w) s.heap a kvs)(r:bD R aP l kvs):xp c τ θ ρ Γ s (.str (aP k) t) (.ref a) (bw k l).isSome:=
 ⟨wpAny_in_of (QS ..) hs d.mapOf (.of (S.tok _) (pY r)),X0 (QS ..) hs d.mapOf (.of (S.tok _) (congrArg (!·) (pY r)))⟩
theorem xC{E:Type}{R:E->Value->Prop}{τ θ s}(S:SR c τ θ ρ Γ s){a:Addr}{k:Int}{l:List (Int×E)}{kvs t}(hs:(a==QR)=false)(d:Uj (intKind PG c.w) s.heap a kvs)(r:bD R id l kvs):xp c τ θ ρ Γ s (.int k t) (.ref a) (Mine.dK k l).isSome:=
 ⟨wpAny_in_of (Wd ..) hs d.mapOf (.of (S.tok _) (oN r)),X0 (Wd ..) hs d.mapOf (.of (S.tok _) (congrArg (!·) (oN r)))⟩
theorem EF{k y:D}{b:Bool}{u v:Value}{τ θ s}(hA:c.A.units+10<RZ)(h:inD k y=some b)(S:SR c τ θ ρ Γ s)(hx:VR τ k u)(hy:VR τ y v):xp c τ θ ρ Γ s u v b:=by
 cases y with
 |tup l=>
  obtain⟨a,rfl,ht⟩:=hy;obtain⟨vs,t1,t2⟩:=S.fY ht;obtain⟨e,e1,e2⟩:=xE S hA h t2 hx;exact⟨in_tupleAt e t1 e1 (.of S e2),notIn_tupleAt e t1 e1 (.of S (congrArg (!·) e2))⟩
 |lst l=>
  obtain⟨a,rfl,ht⟩:=hy;obtain⟨vs,t1,t2⟩:=S.eY ht;obtain⟨e,e1,e2⟩:=xE S hA h t2 hx;exact⟨in_listAt e t1 e1 (.of S e2),notIn_listAt e t1 e1 (.of S (congrArg (!·) e2))⟩
 |bH l=>
  obtain⟨x,hk,rfl⟩:=aJ h;obtain rfl:=D.cC hk;obtain⟨t,rfl⟩:=hx;obtain⟨a,rfl,ep,ht⟩:=hy;obtain⟨σ,K,kvs,d0,d2⟩:=S.mm ht;exact rj S (S.rW ht fun _=>nofun) d0.dictOf d2
 |gs l=>
  obtain⟨x,hk,rfl⟩:=aJ h;obtain rfl:=D.cP hk;obtain⟨t,rfl⟩:=hx;obtain⟨a,rfl,ep,ht⟩:=hy;obtain⟨σ,K,kvs,d0,d2⟩:=S.mm ht;exact xC S (S.rW ht fun _=>nofun) d0.dictOf d2
 |_=>exact aE h
theorem C9{k:D}{m:Mu}{n:Nat}{b:Bool}{u v:Value}{τ θ s}(hg:bq Γ n=some m)(h:Jg k m=some b)(S:SR c τ θ ρ Γ s)(hx:VR τ k u)(hy:VV τ θ (.loc n) v):xp c τ θ ρ Γ s u v b:=by
 obtain⟨a,rfl,ht⟩:=hy;obtain⟨σ,K,ha,at_⟩:=S.c4 ht hg;have hs:=S.big K ha fun _=>nofun
 cases m with
 |sd l=>
  obtain⟨x,hk,rfl⟩:=aJ h;obtain rfl:=D.cC hk;obtain⟨t,rfl⟩:=hx;obtain⟨kvs,d1,d2⟩:=at_;exact rj S hs d1 d2
 |vd l=>
  obtain⟨x,hk,rfl⟩:=aJ h;obtain rfl:=D.cC hk;obtain⟨t,rfl⟩:=hx;obtain⟨kvs,d1,d2⟩:=at_;exact rj S hs d1 d2
 |nd l=>
  obtain⟨x,hk,rfl⟩:=aJ h;obtain rfl:=D.cP hk;obtain⟨t,rfl⟩:=hx;obtain⟨kvs,d1,d2⟩:=at_;exact xC S hs d1 d2
 |_=>exact aE h
theorem wM{x y:V}{b:Bool}{u v:Value}{τ θ s}(hL:c.lv<=300)(h:xG Γ x y=some b)(S:SR c τ θ ρ Γ s)(hx:VV τ θ x u)(hy:VV τ θ y v):xp c τ θ ρ Γ s u v b:=by
 have hA:c.A.units+10<RZ:=by have:=S.wf.units;show c.A.units+10<9900;exact bX this (eR 20 hL)
 obtain⟨k,hk,h1⟩:=ai h;obtain rfl:=V.cf hk;cases y with
 |d y=>exact EF hA h1 S hx hy
 |loc n=>obtain⟨m,hg,h2⟩:=ai h1;exact C9 hg h2 S hx hy
theorem x3{x y:V}{b:Bool}{u v:Value}{τ θ s}(hL:c.lv<=300)(h:A6 Γ x y=some b)(S:SR c τ θ ρ Γ s)(hx:VV τ θ x u)(hy:VV τ θ y v):RcAt c.A s u v b/\RcNeAt c.A s u v (!b):=by
 have hA:c.A.units+1+9<RZ:=by have:=S.wf.units;show c.A.units+1+9<9900;exact bX this (eR 20 hL)
 cases x with
 |d a=>
  obtain⟨b,hb,h1⟩:=ai h;obtain rfl:=V.cf hb;have R:=n6 S 9 _ _ _ h1 _ _ hx hy c.A (Oy ‹_›);exact⟨R.rc,R.ne⟩
 |loc i=>
  obtain⟨M,q1,h1⟩:=ai h;obtain⟨l,hl,h2⟩:=ai h1;obtain rfl:=Mu.eQ hl;obtain⟨a,rfl,ht⟩:=hx;obtain⟨σ,K,ha,vs,t1,t2⟩:=S.c4 ht q1;cases y with
  |d y=>
   obtain⟨l',hl',h3⟩:=ai h2;obtain rfl:=D.eQ hl';obtain⟨a',rfl,ht'⟩:=hy;obtain⟨ws,t3,t4⟩:=S.eY ht';exact(n6 S 9).lists hA h3 t1.isList t2 t3 t4
  |loc j=>
   obtain⟨N,q2,h3⟩:=ai h2;obtain⟨l',hl',h4⟩:=ai h3;obtain rfl:=Mu.eQ hl';obtain⟨a',rfl,ht'⟩:=hy;obtain⟨σ,K,ha,ws,t3,t4⟩:=S.c4 ht' q2;cases q:I' i j with
   |true=>rw[q] at h4;exact aE h4
   |false=>rw[q] at h4;exact(n6 S 9).lists hA h4 t1.isList t2 t3.isList t4
theorem x6{x:D}{b:Bool}{u:Value}{τ}(h:Aq x=some b)(hx:VR τ x u):(u = .none/\b=true)\/(plainIs u .none=true/\u≠ .none/\b=false):=by
 cases x with
 |none=>exact .inl ⟨hx,(j' h).symm⟩
 |val=>exact aE h
 |bool=>subst hx;exact .inr ⟨rfl,nofun,(j' h).symm⟩
 |int=>obtain⟨t,rfl⟩:=hx;exact .inr ⟨rfl,nofun,(j' h).symm⟩
 |str=>obtain⟨t,rfl⟩:=hx;exact .inr ⟨rfl,nofun,(j' h).symm⟩
 |_=>obtain⟨t,rfl,_⟩:=hx;exact .inr ⟨rfl,nofun,(j' h).symm⟩
theorem vr{x:V}{b:Bool}{u:Value}{τ θ}(h:isNone x=some b)(hx:VV τ θ x u):(u = .none/\b=true)\/(plainIs u .none=true/\u≠ .none/\b=false):=by
 cases x with
 |d x=>exact x6 h hx
 |loc n=>obtain⟨a,rfl,_⟩:=hx;exact .inr ⟨rfl,nofun,(j' h).symm⟩
theorem cmp_none{x:V}{b:Bool}{u:Value}{τ θ s}(h:isNone x=some b)(S:SR c τ θ ρ Γ s)(hx:VV τ θ x u):
  N5 (M' PG c.w) c.A (QB .Is u .none) (gG c τ θ ρ Γ b) bh s/\N5 (M' PG c.w) c.A (QB .IsNot u .none) (gG c τ θ ρ Γ (!b)) bh s:=by
 rcases vr h hx with⟨rfl,rfl⟩ | ⟨h1,h2,rfl⟩
 ·exact⟨wpAny_is_self rfl (.here S),wpAny_isNot_self rfl (.here S)⟩
 ·exact⟨wpAny_is_other h1 h2 (.here S),wpAny_isNot_other h1 h2 (.here S)⟩
theorem vJ(hL:c.lv<=300):kg c:=fun ρ Γ op x y b u v τ θ s h S hx hy=>by
 cases op with
 |Eq=>exact(x3 hL h S hx hy).1 _ _ _ _ (gG.here S)
 |NotEq=>obtain⟨b',e,rfl⟩:=aJ h;exact(x3 hL e S hx hy).2 _ _ _ _ (gG.here S)
 |In=>exact(wM hL h S hx hy).1
 |NotIn=>obtain⟨b',e,rfl⟩:=aJ h;exact(wM hL e S hx hy).2
 |Is=>obtain⟨q,h⟩:=cB h;obtain rfl:=m5 q;subst hy;exact(cmp_none h S hx).1
 |IsNot=>obtain⟨q,h⟩:=cB h;obtain rfl:=m5 q;subst hy;obtain⟨b',e,rfl⟩:=aJ h;exact(cmp_none e S hx).2
 |_=>exact BI h S hx hy
end
end
end Mine
end
section
open PyProof
namespace Mine
variable{c:Cx}{ρ:aq}{Γ:ag}{T:Tab}{O:aL}{m:Md}
section
theorem kJ{prog:Q0}{w:World}{A:Around}{E:Value->Shared->Prop}{s:Shared}{value slice:PySem.Expr}{o i:Value}{Q:Value->Shared->Prop}(h:QT (M' prog w) A E o i Q s):N5 (M' prog w) A (YH value slice o i) Q E s:=by
 obtain⟨T,id,hl,hT,hg⟩:=h;unfold YH;refine u' ?_
 rw[getitemInPython_of_ne hT.not_modules];refine u' (wpAny_specialOf hT hl ?_)
 have fin:N5 (M' prog w) A (subscripted slice false o i) (fun r PY=>N5 (M' prog w) A (letTemporaryGo value o r>>=fun _=>pure r) Q E PY) E s:=by
  have : ∃ops,subscripted slice false o i=operate ops (WC o i):=by cases slice with
   |Slice a b c p=>cases c<;>exact⟨_,rfl⟩
   |_=>exact⟨_,rfl⟩
  obtain⟨ops,e⟩:=this;rw[e];exact wpAny_operating (Ob hg (fun r PY Wr=>u' (wpAny_letTemporaryGo (J' Wr))) fun _ _ x=>x)
 first
  |exact J' (u' fin)
  |exact u' (J' (u' fin))
  |exact u' fin
theorem kY{i:Int}{n k:Nat}(h:place i n=some k):WV i n=some k/\ -(2^63)<=i/\i<2^63/\k<n/\(i<0->(i+n).toNat=k/\ -(n:Int)<=i)/\(0<=i->i.toNat=k):=by
 cases i with
 |ofNat j=>
  obtain⟨q,rfl⟩:=bF h;obtain⟨q1,q2⟩:=Ol.mp q;have h1:=cp q1;have n0 : ¬(OO j<0):=Sf.mpr (O9 j);refine⟨?_,Sq (by decide) (O9 j),Rc (P8.mpr (N9 q2)) (by decide),h1,fun h=>absurd h n0,fun _=>rfl⟩
  unfold WV;simp only[n0,if_false];simp[h1]
 |negSucc j=>
  obtain⟨q,rfl⟩:=bF h;obtain⟨q1,q2⟩:=Ol.mp q;have h1:=cp q1;have h2:j<=16777216:=N9 q2;have n0:UB j<0:=UT j;have e:UB j+(n:Int)=((n-(j+1):Nat):Int):=UR h1;have h3:n-(j+1)<n:=Yg (Se (RW j) h1) (P5 j);refine⟨?_,(show -(2^63:Int)<= -((j+1:Nat):Int) from Sq (by decide) (Wo (P8.mpr (QK h2)))),Xf n0 (by decide),h3,fun _=>⟨by rw[e];rfl,(show -(n:Int)<= -((j+1:Nat):Int) from Wo (P8.mpr h1))⟩,fun h=>absurd n0 (Sf.mpr h)⟩
  unfold WV;simp only[n0,if_true];rw[e];simp[h3]
theorem tB{prog:Q0}{w:World}{A:Around}{E:Value->Shared->Prop}{s:Shared}{a:Addr}{vs:Array Value}{i:Int}{t:XA}{k n:Nat}{x:Value}{Q:Value->Shared->Prop}(hl:s.heap.IsList a vs)(hz:vs.size=n)(h:place i n=some k)(hx:vs.toList[k]?=some x)(hQ:Q x s):
  N5 (M' prog w) A (WC (.ref a) (.int i t)) Q E s:=by
 subst hz;obtain⟨h1,h2,h3,h4,h5,h6⟩:=kY h;rcases Int.lt_or_le i 0 with hi | hi
 ·obtain⟨h7,h8⟩:=h5 hi
  exact wpAny_getItem_list_neg hl hi h8 h2 (by rw[h7];simpa using hx) hQ
 ·exact wpAny_getItem_list hl hi h3 (by rw[h6 hi];simpa using hx) hQ
def IP(c:Cx)(τ:aF)(θ:aX)(ρ:aq)(Γ:ag)(r:V):Value->Shared->Prop:=fun w s'=>VV τ θ r w/\SR c τ θ ρ Γ s'
theorem qA{l:List D}{y r:D}{τ v}(h:mn l y=some r)(hy:VR τ y v): ∃i t k,v = .int i t/\place i l.length=some k/\l[k]?=some r:=by
 obtain⟨i,h1,h2⟩:=ai h;obtain⟨k,h3,h4⟩:=ai h2;obtain rfl:=D.cP h1;obtain⟨t,rfl⟩:=hy;exact⟨i,t,k,rfl,h3,h4⟩
theorem item_list{l:List D}{y r:D}{a:Addr}{v:Value}{vs:Array Value}{τ θ s}(h:mn l y=some r)(S:SR c τ θ ρ Γ s)(t1:s.heap.IsList a vs)(t2:bz τ l vs.toList)(hy:VR τ y v):QT (M' PG c.w) c.A bh (.ref a) v (IP c τ θ ρ Γ (.d r)) s:=by
 obtain⟨i,t,k,rfl,hk,q⟩:=qA h hy;obtain⟨w,w1,w2⟩:=t2.get q;exact⟨"list",_,WA.lookup,t1.typeIs,tB t1 t2.size.symm hk w1 ⟨w2,S⟩⟩
theorem item_tup{l:List D}{y r:D}{a:Addr}{v:Value}{vs:Array Value}{τ θ s}(h:mn l y=some r)(S:SR c τ θ ρ Γ s)(t1:UL s.heap a vs)(t2:bz τ l vs.toList)(hy:VR τ y v):QT (M' PG c.w) c.A bh (.ref a) v (IP c τ θ ρ Γ (.d r)) s:=by
 obtain⟨i,t,k,rfl,hk,q⟩:=qA h hy;obtain⟨h1,h2,h3,h4,_⟩:=kY hk;obtain⟨w,w1,w2⟩:=t2.get q;exact⟨"tuple",_,Rq.lookup,t1.typeIs,getItem_tuple t1 h2 h3 (by rw[<-t2.size];exact h1) (TX.symm.trans w1) ⟨w2,S⟩⟩
theorem nM{E:Type}{R:E->Value->Prop}{k:Tx}{t:XA}{l:List (Tx×E)}{r:E}{z:V}{a:Addr}{kvs}{τ θ s}(h:bw k l=some r)(S:SR c τ θ ρ Γ s)(d:Uj (strKind PG c.w) s.heap a kvs)(p:bD R aP l kvs)(hr : ∀w,R r w->VV τ θ z w):QT (M' PG c.w) c.A bh (.ref a) (.str (aP k) t) (IP c τ θ ρ Γ z) s:=by
 obtain⟨w,w1,w2⟩:=(bD.look (k:=k) p).1 r h;exact⟨"dict",_,slot_dict_getitem.lookup,d.mapOf.typeIs,wpAny_getItem_of (QS ..) d.mapOf w1 ⟨hr w w2,S.tok _⟩⟩
theorem yh{l:Tx}{t:XA}{y:D}{r:D}{v:Value}{τ θ s}(h:vi (.str l) y=some r)(S:SR c τ θ ρ Γ s)(hy:VR τ y v):QT (M' PG c.w) c.A bh (.str (aP l) t) v (IP c τ θ ρ Γ (.d r)) s:=by
 obtain⟨i,e1,e2⟩:=ai h;obtain⟨k,hk,e3⟩:=ai e2;obtain⟨ch,q,rfl⟩:=aJ e3;obtain rfl:=D.cP e1;obtain⟨t,rfl⟩:=hy;obtain⟨h1,h2,h3,h4,_⟩:=kY hk;have hc:Yb (aP l) i=some ch:=by
  unfold Yb;rw[bM,h1];simpa using q
 refine⟨"str",_,F.slot_str_getitem.lookup,typeIs_str _ _ _,SB.getItem ?_ (by rw[hc];rfl) ⟨⟨s.toks,?_⟩,S.tok _⟩⟩
 ·unfold fitsSsize;simp only[PT,Bool.or_eq_false_iff,decide_eq_false_iff_not];constructor<;>first | exact Sf.mpr ‹_› | exact Tq.mpr ‹_›
 ·unfold Txt.item;rw[hc];rfl
theorem yw{x y r:D}{u v:Value}{τ θ s}(h:vi x y=some r)(S:SR c τ θ ρ Γ s)(hx:VR τ x u)(hy:VR τ y v):QT (M' PG c.w) c.A bh u v (IP c τ θ ρ Γ (.d r)) s:=by
 cases x with
 |str l=>obtain⟨t,rfl⟩:=hx;exact yh h S hy
 |tup l=>
  obtain⟨a,rfl,ht⟩:=hx;obtain⟨vs,t1,t2⟩:=S.fY ht;exact item_tup h S t1 t2 hy
 |lst l=>
  obtain⟨a,rfl,ht⟩:=hx;obtain⟨vs,t1,t2⟩:=S.eY ht;exact item_list h S t1 t2 hy
 |bH l=>
  obtain⟨k,h1,h2⟩:=ai h;obtain rfl:=D.cC h1;obtain⟨a,rfl,ep,ht⟩:=hx;obtain⟨t',rfl⟩:=hy;obtain⟨σ,K,kvs,d0,d2⟩:=S.mm ht;exact nM h2 S d0.dictOf d2 fun w r=>r
 |_=>exact aE h
theorem zq{m:Mu}{y:D}{r:V}{n:Nat}{u v:Value}{τ θ s}(hg:bq Γ n=some m)(h:A4 m y=some r)(S:SR c τ θ ρ Γ s)(hx:VV τ θ (.loc n) u)(hy:VR τ y v):QT (M' PG c.w) c.A bh u v (IP c τ θ ρ Γ r) s:=by
 obtain⟨a,rfl,ht⟩:=hx;obtain⟨σ,K,ha,at_⟩:=S.c4 ht hg;cases m with
 |list l=>
  obtain⟨d,h1,rfl⟩:=aJ h;obtain⟨vs,t1,t2⟩:=at_;exact item_list h1 S t1.isList t2 hy
 |sd l=>
  obtain⟨k,h1,h2⟩:=ai h;obtain⟨d,h3,rfl⟩:=aJ h2;obtain rfl:=D.cC h1;obtain⟨t',rfl⟩:=hy;obtain⟨kvs,d1,d2⟩:=at_;exact nM h3 S d1 d2 fun w r=>r
 |vd l=>
  obtain⟨k,h1,h2⟩:=ai h;obtain rfl:=D.cC h1;obtain⟨t',rfl⟩:=hy;obtain⟨kvs,d1,d2⟩:=at_;exact nM h2 S d1 d2 fun w r=>r
 |_=>exact aE h
theorem CC{x y r:V}{u v:Value}{τ θ s}(h:cF Γ x y=some r)(S:SR c τ θ ρ Γ s)(hx:VV τ θ x u)(hy:VV τ θ y v):QT (M' PG c.w) c.A bh u v (IP c τ θ ρ Γ r) s:=by
 obtain⟨y',h1,h2⟩:=ai h;obtain rfl:=V.cf h1;cases x with
 |d x=>obtain⟨d,h3,rfl⟩:=aJ h2;exact yw h3 S hx hy
 |loc n=>obtain⟨m,hg,h3⟩:=ai h2;exact zq hg h3 S hx hy
theorem zB{M:UK}{A:Around}{E E':Value->Shared->Prop}{o i:Value}{Q Q':Value->Shared->Prop}{s}(h:QT M A E o i Q s)(hQ : ∀v s,Q v s->Q' v s)(hE : ∀v s,E v s->E' v s):QT M A E' o i Q' s:=
 let ⟨T,id,a,b,d⟩:=h;⟨T,id,a,b,Ob d hQ hE⟩
theorem H6{a i p}(ha:SE c T O m a)(hi:SE c T O m i):SE c T O m (.sub a i p):=fun ρ Γ => .of fun τ θ s hn S=>
 T8 ((ha ρ Γ).go hn S (.refl _ _) fun u OU Oo OC x Od Oj Oz _ OL Ot n₁ OA=>
  (hi Od Oj).go n₁ Ot Oz (fun v Pn Pu O5 y PJ PA PI m₂ PX OW Px O6=>fR Px O6 PI fun z q=>kJ (zB (CC q OW (VV.mono m₂.l m₂.k OL) PX) (fun w s' h => .here h.1 h.2) fun _ _ x=>x)) OA)
theorem kW(i:Int)(n:Nat):RS n i=iI i n:=by
 cases i with
 |ofNat=>exact clipAt_nat _ _
 |negSucc k=>exact clipAt_neg n (k+1) (P5 k)
theorem yF(items:Array Value)(lo hi:Option Int):slicePick items lo hi none=(slice items.toList lo hi).toArray:=by
 rw[slicePick_plain];unfold slice cut;congr 1;cases lo<;>cases hi<;>simp[kW]
theorem Bn : ∀(i:Int) (n:Nat),iI i n<=n
 | .ofNat _,_=>Sz _ _
 | .negSucc _,_=>Ti _ _
theorem BJ{l:Tx}{a b:Nat}(h:b-a=l.length)(hb:b<=l.length):(l.drop a).take (b-a)=l:=by
 rw[h];cases a with
 |zero=>exact Qx (Ox _)
 |succ a=>
  have:l.length=0:=by
   cases q:l.length with
   |zero=>rfl
   |succ n=>rw[q] at h hb;exact absurd (h▸RX hb (a+1)) (by rw[Nat.succ_sub_succ];exact Nat.not_le_of_lt (Vm (Ti n a)))
  rw[TM.mp this];rfl
set_option tactic.hygienic true in
theorem Cs(l:Tx)(lo hi:Option Int):Vz (aP l) lo hi=aP (slice l lo hi):=by
 have key:QD lo hi 1 l.length=(OX ((hi.elim l.length (RS l.length))-lo.elim 0 (RS l.length))).map (lo.elim 0 (RS l.length) + ·):=by
  rw[<-sliceRange_one];unfold QD;have:=sliceBounds_plain lo hi l.length;simp only[sliceBounds,Option.getD_none,Prod.mk.injEq] at this;simp only[show(1:Int)>0 by decide,if_true] at this ⊢
  rw[<-this.1,<-this.2.1];cases lo<;>cases hi<;>rfl
 have e1:(slice l lo hi)=(l.drop (lo.elim 0 (RS l.length))).take (hi.elim l.length (RS l.length)-lo.elim 0 (RS l.length)):=by
  unfold slice cut;cases lo<;>cases hi<;>simp[kW]
 have e2:=pick_run l.toArray (lo.elim 0 (RS l.length)) (hi.elim l.length (RS l.length)-lo.elim 0 (RS l.length));rw[<-key] at e2;simp only[QU] at e2;rw[<-e1] at e2;have e3:((QD lo hi 1 l.length).filterMap fun x=>(aP l).cps[x]?)=slice l lo hi:=e2
 unfold Vz;rw[bM,e3];split
 ·rename_i hc
  simp only[BEq.rfl,Rm,beq_iff_eq] at hc;rw[key,Oe,U'] at hc;rw[e1,BJ hc];cases hi with
  |none=>exact Ox _
  |some i=>show RS l.length i<=l.length;rw[kW];exact Bn i _
 ·rfl
theorem bz.drop{τ:aF}{ds:List D}{vs:List Value}(n:Nat)(h:bz τ ds vs):bz τ (ds.drop n) (vs.drop n):=Rel2.skip h n
theorem bz.take{τ:aF}{ds:List D}{vs:List Value}(n:Nat)(h:bz τ ds vs):bz τ (ds.take n) (vs.take n):=Rel2.tk h n
theorem bz.slice{τ:aF}{ds:List D}{vs:List Value}(lo hi:Option Int)(h:bz τ ds vs):bz τ (Mine.slice ds lo hi) (Mine.slice vs lo hi):=by
 unfold Mine.slice cut;rw[h.length];exact(h.drop _).take _
theorem zT(n:Nat):QJ none (some (-1)) 1 (n:Int)=(0,((n-1:Nat):Int)):=by
 unfold QJ;simp only[show¬((1:Int)<0) by decide,if_false,show((-1:Int)<0) by decide,if_true]
 congr 1
 cases n with
 |zero=>rfl
 |succ n=>
  show max (Int.subNatNat (n+1) 1) 0=_
  rw[UR (Qa 1 n)];exact Int.max_eq_left (O9 _)
theorem ti(n:Nat):P9 0 ((n-1:Nat):Int) 1=n-1:=by
 unfold P9;simp only[show(1:Int)>0 by decide,if_true,Int.ediv_one]
 split
 ·rw[Int.sub_zero,Int.sub_add_cancel];exact Int.toNat_natCast _
 ·exact(Nat.eq_zero_of_not_pos fun h => ‹¬_› (Qo.mpr h)).symm
theorem lA {prog:Q0} {w:World} {A:Around} {E:Value->Shared->Prop} {s:Shared} {t sl:Addr} {items:Array Value} {u:XA} {Q:Value->Shared->Prop} (ht:UL s.heap t items) (hs:s.heap.IsSliceOf sl .none (.int (-1) u) .none) (h1:1<=items.size)
  (h:Q (.ref s.heap.objs.size) {s with heap:=s.heap.push {cls := .type "tuple",data := .seq (items.toList.take (items.size-1)).toArray}}) (hsz:items.size<=Qv):N5 (M' prog w) A (WC (.ref t) (.ref sl)) Q E s:=by
 have hok:sizeOk (.seq (items.toList.take (items.size-1)).toArray):=by
  show(items.toList.take (items.size-1)).toArray.size<=Qv
  rw[U8,Sv,PH];exact N0 (Sz _ _) hsz
 obtain⟨os,hos,hcs,hds⟩:=id hs;have hTs:s.TypeIs (.ref sl) "slice":=⟨os,hos,hcs⟩;have hadj:=zT items.size;have hpl:=ti items.size;have happ : ∀{A:Around} {E:Value->Shared->Prop} {Q:Int×Int×Nat->Shared->Prop},Q (0,1,items.size-1) s->N5 (M' prog w) A (R2 (.ref sl) (pure (items.size:Int))) Q E s:=fun{A E Q} hQ=>by
  unfold R2 W';refine u' (u' (PW hos hds (x := .none) rfl (u' (PW hos hds (x := .int (-1) u) rfl (u' (PW hos hds (x := .none) rfl (J' ?_)))))))
  refine u' (Ye ?_)
  show N5 _ _ (if ((1:Int)==0)=true then _ else _) _ _ s
  rw[if_neg (by decide)]
  refine u' (Ye (u' (slicePart_int (u' (J' ?_)))))
  show N5 _ _ (match QJ none (some (-1)) 1 (items.size:Int) with | (lo,hi)=>pure (lo,(1:Int),P9 lo hi 1)) _ _ s
  rw[hadj];show N5 _ _ (pure ((0:Int),(1:Int),P9 0 ((items.size-1:Nat):Int) 1)) _ _ s
  rw[hpl];exact J' hQ
 have hpick:((OX (items.size-1)).filterMap fun(k:Nat)=>items[((0:Int)+(k:Int) * 1).toNat]?).toArray=(items.toList.take (items.size-1)).toArray:=by
  have e:(fun(k:Nat)=>items[((0:Int)+(k:Int) * 1).toNat]?)=fun k=>items[0+k]?:=by
   funext k
   have:((0:Int)+(k:Int) * 1).toNat=0+k:=by rw[Int.mul_one,Int.zero_add,Ql];rfl
   rw[this]
  rw[e];have:=pick_run items 0 (items.size-1);rw[List.filterMap_map] at this;have e2:((fun x=>items[x]?)∘fun x=>0+x)=fun k=>items[0+k]?:=rfl
  rw[e2] at this;rw[this,S3]
 unfold WC
 try with_reducible refine wpAny_holding ?_
 first | refine u' (J' ?_) | skip
 refine u' (wpAny_sequenceKey ht.typeIs (by decide) ?_)
 refine u' (wpAny_callSpecial?_slot (name:=P4 "__getitem__") ht.typeIs Rq
  (wpAny_call_entry Rq ht.typeIs entry_tuple_getitem ?_ (args_tuple_getitem _ _)))
 show N5 _ _ (W9 (.ref t)>>=_) _ _ s
 refine u' (tupleItemsOf_ ht ?_)
 refine u' (wpAny_typeOf hTs ?_)
 rw[if_pos (by decide)]
 refine u' (happ ?_)
 have hno : ¬(((0:Int)==0&&(1:Int)==1&&(items.size-1)==items.size)=true):=by
  have:(items.size-1==items.size)=false:=by rw[beq_eq_false_iff_ne];exact PK (Yg h1 (P5 0))
  rw[this];simp
 show N5 _ _ (if ((0:Int)==0&&(1:Int)==1&&(items.size-1)==items.size)=true then _ else _) _ _ s
 rw[if_neg hno,hpick]
 first
  |exact u' (m:=Qe _) (QI (J' ⟨_,rfl,J' h⟩) hok)
  |exact u' (m:=Qe _) (QI (u' (J' (J' ⟨_,rfl,J' h⟩))) hok)
  |exact u' (u' (m:=Qe _) (QI (J' (J' ⟨_,rfl,J' h⟩)) hok))
  |exact u' (u' (m:=Qe _) (QI (J' ⟨_,rfl,J' h⟩) hok))
inductive Part:Option Int->Value->Prop where
 |none:Part none .none
 |some {i t}:Part (some i) (.int i t)
theorem Part.is{lo v}(h:Part lo v):IsPart v lo:=by cases h<;>constructor
noncomputable abbrev pH(s:Shared)(vl vh:Value):Shared:={s with heap:=s.heap.push {cls := .type "slice",data := .fields #[vl,vh,.none]}}
theorem SR.A5{τ θ s}(S:SR c τ θ ρ Γ s){h':Po}(k : ∀b o,s.heap.get? b=some o->h'.get? b=some o)(t:Nat):SR c τ θ ρ Γ {s with heap:=h',toks:=t}:=S.heap t fun σ O=>O.keeps k
theorem SR.IT{τ θ s}(S:SR c τ θ ρ Γ s)(vl vh:Value):SR c τ θ ρ Γ (pH s vl vh):=S.A5 (cA _) s.toks
theorem yb{l:Tx}{t:XA}{vl vh:Value}{lo hi:Option Int}{τ θ s}(q:ay l.length=true)(hlh:lo≠none\/hi≠none)(S:SR c τ θ ρ Γ s)(hl:Part lo vl)(hh:Part hi vh):QT (M' PG c.w) c.A bh (.str (aP l) t) (.ref s.heap.objs.size) (DV c τ θ ρ Γ (.d (.str (slice l lo hi)))) (pH s vl vh):=by
 have hz:(aP l).length<=Qv:=by rw[bM];exact cN q
 have hk:KeptH fun h' => ∀b o,s.heap.get? b=some o->h'.get? b=some o:=fun h' ob k b o e=>Pb _ (k b o e)
 have hq : ∀h' t' k,(∀b o,s.heap.get? b=some o->h'.get? b=some o)->DV c τ θ ρ Γ (.d (.str (slice l lo hi))) (.str (Vz (aP l) lo hi) t') {s with heap:=h',toks:=k}:=fun h' t' k hP=>⟨τ,.refl _,⟨t',by rw[Cs]⟩,S.A5 hP k⟩
 cases hl with
 |none=>cases hh with
  |none=>exact absurd rfl (hlh.resolve_left fun h=>h rfl)
  |some=>exact SBH.sliceItem_ns hk (fun _ _ e=>e) hq hz
 |some=>cases hh with
  |none=>exact SBH.sliceItem_sn hk (fun _ _ e=>e) hq hz
  |some=>exact SBH.sliceItem_ss hk (fun _ _ e=>e) hq hz
theorem xr{l:List D}{u vl vh:Value}{lo hi:Option Int}{τ θ s}(q:ay l.length=true)(S:SR c τ θ ρ Γ s)(hx:VR τ (.lst l) u)(hl:Part lo vl)(hh:Part hi vh):QT (M' PG c.w) c.A bh u (.ref s.heap.objs.size) (DV c τ θ ρ Γ (.d (.lst (slice l lo hi)))) (pH s vl vh):=by
 have Ot:=S.IT vl vh;obtain⟨a,rfl,ht⟩:=hx;obtain⟨vs,t1,t2⟩:=Ot.eY ht;refine⟨"list",_,WA.lookup,t1.typeIs,wpAny_getItem_list_slice t1 (SJ ..) hl.is hh.is .none (fun h=>nomatch h) ?_ (by rw[<-t2.size];exact cN q)⟩
 rw[yF];exact(xU (l:=slice l lo hi) (vs:=slice vs.toList lo hi) Ot (t2.slice lo hi) s.toks).v
theorem xS{l:List D}{u:Value}{τ θ s}(q:(ay l.length && !l.isEmpty)=true)(S:SR c τ θ ρ Γ s)(hx:VR τ (.tup l) u){t:XA}:QT (M' PG c.w) c.A bh u (.ref s.heap.objs.size) (DV c τ θ ρ Γ (.d (.tup (slice l none (some (.negSucc 0)))))) (pH s .none (.int (.negSucc 0) t)):=by
 have Ot:=S.IT .none (.int (.negSucc 0) t);obtain⟨q1,q2⟩:=Ol.mp q;obtain⟨a,rfl,ht⟩:=hx;obtain⟨vs,t1,t2⟩:=Ot.fY ht;have hne:1<=vs.size:=by
  rw[<-t2.size];cases l with
  |nil=>injection q2
  |cons=>exact QK (RW _)
 refine⟨"tuple",_,Rq.lookup,t1.typeIs,lA t1 (SJ ..) hne ?_ (by rw[<-t2.size];exact cN q1)⟩
 have S':=(w6 (l:=slice l none (some (.negSucc 0))) (vs:=slice vs.toList none (some (.negSucc 0))) Ot (t2.slice _ _) s.toks).v;rw[show slice vs.toList none (some (.negSucc 0))=vs.toList.take (vs.size-1) by simp[slice,cut,iI]] at S'
 exact S'
theorem u7{lo hi:Option Int}(h:uA lo hi=true):lo=none/\hi=some (.negSucc 0):=by
 cases lo with
 |some=>exact H' h
 |none=>cases hi with
  |none=>exact H' h
  |some i=>cases i with
   |ofNat=>exact H' h
   |negSucc k=>exact⟨rfl,congrArg (fun k=>some (UB k)) (N2 h)⟩
theorem wW{x r:D}{u vl vh:Value}{lo hi:Option Int}{τ θ s}(h:dn x lo hi=some r)(hlh:lo≠none\/hi≠none)(S:SR c τ θ ρ Γ s)(hx:VR τ x u)(hl:Part lo vl)(hh:Part hi vh):QT (M' PG c.w) c.A bh u (.ref s.heap.objs.size) (DV c τ θ ρ Γ (.d r)) (pH s vl vh):=by
 cases x with
 |str l=>obtain⟨q,rfl⟩:=bF h;obtain⟨t,rfl⟩:=hx;exact yb q hlh S hl hh
 |lst l=>obtain⟨q,rfl⟩:=bF h;exact xr q S hx hl hh
 |tup l=>
  obtain⟨h1,h2⟩:=cB h;obtain⟨q,rfl⟩:=bF h2;obtain⟨rfl,rfl⟩:=u7 h1;cases hl;cases hh;exact xS q S hx
 |_=>exact aE h
theorem nK{x r:V}{u vl vh:Value}{lo hi:Option Int}{τ θ s}(h:dq x lo hi=some r)(hlh:lo≠none\/hi≠none)(S:SR c τ θ ρ Γ s)(hx:VV τ θ x u)(hl:Part lo vl)(hh:Part hi vh):QT (M' PG c.w) c.A bh u (.ref s.heap.objs.size) (DV c τ θ ρ Γ r) (pH s vl vh):=by
 obtain⟨x',h1,h2⟩:=ai h;obtain⟨d,h3,rfl⟩:=aJ h2;obtain rfl:=V.cf h1;exact wW h3 hlh S hx hl hh
theorem iq{env:R0}{A:Around}{w:World}{P:Value->Shared->Prop}{E:Value->Shared->Prop}{s}(h:P .none s):N5 (M' PG w) A (evalPart none env) P E s:=by rw[evalPart_none];exact J' h
theorem jo{e:PySem.Expr}{env:R0}{A:Around}{w:World}{P:Value->Shared->Prop}{E:Value->Shared->Prop}{s}(h:N5 (M' PG w) A (Q7 e env) P E s):N5 (M' PG w) A (evalPart (some e) env) P E s:=by rw[evalPart_some];exact h
theorem kK{y:V}{i:Int}{v:Value}{τ θ}(h:y.of D.int?=some i)(r:VV τ θ y v):Part (some i) v:=by
 obtain⟨d,rfl,h1⟩:=V.of_eq h;obtain rfl:=D.cP h1;obtain⟨t,rfl⟩:=r;exact .some
theorem C7{a hi ps p}(ha:SE c T O m a)(hh:SE c T O m hi):SE c T O m (.pQ a hi ps p):=fun ρ Γ => .of fun τ θ s hn S=>
 T8 ((ha ρ Γ).go hn S (.refl _ _) fun u OU Oo OC x Od Oj Oz _ OL Ot n₁ OA=>Vp (iq (jo
  ((hh Od Oj).go n₁ Ot Oz (fun v Pn Pu O5 y PJ PA PI m₂ PX OW Px O6=>iq (fR Px O6 PI fun z q=>
   let ⟨_,h1,h2⟩:=ai q
   kJ (nK h2 (.inr nofun) OW (VV.mono m₂.l m₂.k OL) .none (kK h1 PX)))) OA))))
theorem Es{a lo ps p}(ha:SE c T O m a)(hh:SE c T O m lo):SE c T O m (.pk a lo ps p):=fun ρ Γ => .of fun τ θ s hn S=>
 T8 ((ha ρ Γ).go hn S (.refl _ _) fun u OU Oo OC x Od Oj Oz _ OL Ot n₁ OA=>Vp (jo
  ((hh Od Oj).go n₁ Ot Oz (fun v Pn Pu O5 y PJ PA PI m₂ PX OW Px O6=>iq (iq (fR Px O6 PI fun z q=>
   let ⟨_,h1,h2⟩:=ai q
   kJ (nK h2 (.inl nofun) OW (VV.mono m₂.l m₂.k OL) (kK h1 PX) .none)))) OA)))
theorem DZ{a lo hi ps p}(ha:SE c T O m a)(hl:SE c T O m lo)(hh:SE c T O m hi):SE c T O m (.ni a lo hi ps p):=fun ρ Γ => .of fun τ θ s hn S=>
 T8 ((ha ρ Γ).go hn S (.refl _ _) fun u OU Oo OC x Od Oj Oz _ OL Ot n₁ OA=>Vp (jo
  ((hl Od Oj).go n₁ Ot Oz (fun v Pn Pu O5 y PJ PA PI m₂ PX OW Px O6=>jo
   ((hh PJ PA).go Px OW PI (fun w PY Rg RH z SG QY RO TP SV QQ RI Qt=>iq (fR RI Qt RO fun z q=>
    let ⟨_,h1,h2⟩:=ai q
    let ⟨_,h3,h4⟩:=ai h2
    kJ (nK h4 (.inl nofun) QQ (VV.mono (m₂.trans TP).l (m₂.trans TP).k OL) (kK h1 (VV.mono TP.l TP.k PX)) (kK h3 SV)))) O6)) OA)))
end
end Mine
end
section
open PyProof Builtin ObjectAttr
namespace Mine
theorem HF:builtinKind "BaseException.__getattribute__"=some .slot:=by decide +kernel
theorem Hn:splitId "BaseException.__getattribute__"=some ("BaseException","__getattribute__"):=by decide +kernel
theorem G0(a b:Value):slotArgs "__getattribute__" 1 ⟨[a,b],[]⟩=pure (a,[b]):=by kernel_rfl
theorem Iq(n:Str)(t:Nat):attrName (.str n t)=pure n:=rfl
theorem HO:(Value.builtin "BaseException.__getattribute__"==Value.builtin "object.__getattribute__")=false:=by decide +kernel
theorem Ie(x:Value):bindSpecial (.builtin "BaseException.__getattribute__") x=pure (.builtin "BaseException.__getattribute__",[x]):=U4.ga.bind x
section
variable{prog:Q0}{w:World}{A:Around}{E:Value->Shared->Prop}{s:Shared}{K:U3}{x C:Addr}{ox:Obj}{od:Option Obj}{name:Str}{expr:Bool}{Q:Value->Shared->Prop}
theorem EI{v:Value}{t:Nat}(L0:P2 (M' prog w) s.heap (Sx (.ref x)) (.ref C))(L3:P2 (M' prog w) s.heap (find (.ref x) (.ref C) name) (.value v))(L4:P2 (M' prog w) s.heap (Rn (.ref x) (.type "BaseException")) true)(hR:Q v s):
  N5 (M' prog w) A (call (.builtin "BaseException.__getattribute__") [.ref x,.str name t]) Q E s:=by
 refine T1 ?_
 refine Q3 U4.ga.plain F.entry_bexc_ga (@Wh (M' prog w) _ _ s "BaseException.__getattribute__" "BaseException" "__getattribute__" (.ref x) [.str name t] [] _ HF Hn L4 (F.args_bexc_ga (.ref x) (.str name t)) ?_)
 unfold WJ.«object.__getattribute__»;rw[G0];refine u' (J' ?_)
 dsimp only;rw[Iq];exact u' (J' (u' (L0.here (u' (L3.here (J' hR))))))
theorem BA {v:Value} (X:K.In s.heap) (I:InstAt s.heap x ox C od) (hga:PU K (.ref C) "__getattribute__"=some (some (.builtin "BaseException.__getattribute__"))) (hgt:PU K (.ref C) "__getattr__"=some none)
  (hsub:X' K C (.type "BaseException")=some true) (hf:findObj K C od name=some (.value v)) (hh:handedIn v=true) (h:Q v {s with toks:=s.toks+1}):N5 (M' prog w) A (UZ (.ref x) name expr) Q E s:=by
 have L0:=I.type (M:=M' prog w);have L1:=Rd (M:=M' prog w) X hga;have L2:=Rd (M:=M' prog w) X hgt;have L3:=looks_find (M:=M' prog w) X I hf;have L4:P2 (M' prog w) s.heap (Rn (.ref x) (.type "BaseException")) true:=I.type.andThen (R7 X hsub);obtain⟨hp,g,d,t,os⟩:=s;unfold UZ getAttrBy;refine u' (wpAny_mkText (wpAny_holding (u' (L0.at (u' (L1.at ?_))))))
 show N5 _ _ (if (onTheHeap (.ref C)&&Value.builtin "BaseException.__getattribute__"==Value.builtin "object.__getattribute__")=true then _ else _) _ _ _
 rw[HO,Bool.and_false,if_neg (by simp)]
 unfold getAttrByItsOwn;refine u' (m:=hookBefore (.ref C)) ?_
 show N5 _ _ (typeLookup (.ref C) "__getattr__") _ _ _
 refine L2.at (u' (wpAny_attempt (wpAny_holding ?_)))
 have e:callGetattribute (.ref x) (.str name t) (.builtin "BaseException.__getattribute__") expr=X9 (.builtin "BaseException.__getattribute__") (.ref x) (.str name t):=by cases expr<;>rfl
 rw[e];unfold X9;rw[Ie];refine u' (J' ?_)
 refine EI (s:=⟨hp,g,d,t+1,os⟩) L0 L3 L4 ?_
 show N5 _ _ (handedOut v) _ _ _
 rw[handedOut_of hh];exact J' h
end
theorem Kg(P:Of):AN.map (PU (KK P) (.ref 84))=AN.map fun _=>some none:=by kernel_rfl
theorem Hy(P:Of):AN.map (PU (KK P) (.ref 438))=AN.map fun _=>some none:=by kernel_rfl
theorem HX(P:Of):AN.map (PU (KK P) (.ref 679))=AN.map fun _=>some none:=by kernel_rfl
theorem rA{α β:Type}{f g:α->β}{l:List α}(h:l.map f=l.map g){x:α}(hx:x∈l):f x=g x:=by
 induction l with
 |nil=>cases hx
 |cons y r ih=>
  simp only[Oa,List.cons.injEq] at h;rcases N7.mp hx with rfl | hx
  ·exact h.1
  ·exact ih h.2 hx
theorem I6{P:Of}{C:Addr}(h:sb C){x:Str}(hx:x∈AN):PU (KK P) (.ref C) x=some none:=by
 rcases h with rfl | rfl
 ·exact rA (HX P) hx
 ·exact rA (Hy P) hx
theorem Gg{P:Of}{C:Addr}(h:vj C){x:Str}(hx:x∈AN):PU (KK P) (.ref C) x=some none:=by
 subst h;exact rA (Kg P) hx
theorem Dh(P:Of):Td (KK P) 84=true:=by kernel_rfl
theorem Ez(P:Of):Td (KK P) 438=true:=by kernel_rfl
theorem Em(P:Of):Td (KK P) 679=true:=by kernel_rfl
theorem J6(P:Of):PU (KK P) (.ref 84) "__getattribute__"=some (some (.builtin "BaseException.__getattribute__")):=by kernel_rfl
theorem Kq(P:Of):PU (KK P) (.ref 84) "__getattr__"=some none:=by kernel_rfl
theorem NV(P:Of):PU (KK P) (.ref 438) "__getattr__"=some none:=by kernel_rfl
theorem H4(P:Of):PU (KK P) (.ref 679) "__getattr__"=some none:=by kernel_rfl
theorem Ir(P:Of):PU (KK P) (.ref 438) "__getattribute__"=some (some (.builtin "object.__getattribute__")):=by kernel_rfl
theorem Aw(P:Of):PU (KK P) (.ref 679) "__getattribute__"=some (some (.builtin "object.__getattribute__")):=by kernel_rfl
theorem Kj(P:Of):PU (KK P) (.ref 84) "__setattr__"=some (some (.builtin "object.__setattr__")):=by kernel_rfl
theorem H8(P:Of):PU (KK P) (.ref 438) "__setattr__"=some (some (.builtin "object.__setattr__")):=by kernel_rfl
theorem Ig(P:Of):PU (KK P) (.ref 679) "__setattr__"=some (some (.builtin "object.__setattr__")):=by kernel_rfl
theorem Iv(P:Of):(clsIn (KK P) 84).map (·.mro)=some [.ref 84,.type "Exception",.type "BaseException",.type "object"]:=by kernel_rfl
theorem IE(P:Of):W5 (KK P) 438=true:=by kernel_rfl
theorem IB(P:Of):W5 (KK P) 679=true:=by kernel_rfl
theorem FQ(P:Of):X' (KK P) 84 (.type "BaseException")=some true:=by kernel_rfl
def Stores(K:U3)(C:Addr):Prop:=PU K (.ref C) "__setattr__"=some (some (.builtin "object.__setattr__"))/\∃cd,clsIn K C=some cd/\cd.hasDict=true/\cd.mro.isEmpty=false/\cd.mro.contains (.type "object")=true/\∀x:Addr,refuseLoop (.ref x) "__setattr__" cd.mro=pure ()
theorem Cp{P:Of}{C:Addr}(h:sb C):Stores (KK P) C:=by
 have key : ∀C,Td (KK P) C=true->W5 (KK P) C=true->∃cd,clsIn (KK P) C=some cd/\cd.hasDict=true/\cd.mro.isEmpty=false/\cd.mro.contains (.type "object")=true/\∀x:Addr,refuseLoop (.ref x) "__setattr__" cd.mro=pure ():=fun C hd hp=>by
  obtain⟨cd,hc,ho⟩:=Vy hp;obtain⟨cd',hc',hd'⟩:=Vy hd;rw[hc] at hc';injection hc' with hc';subst hc'
  refine⟨cd,hc,hd',?_,only_has ho,fun x=>refuse_only _ ho⟩
  cases q:cd.mro with
  |nil=>rw[q] at ho;cases ho
  |cons _ _=>rfl
 rcases h with rfl | rfl
 ·exact⟨Ig P,key _ (Em P) (IB P)⟩
 ·exact⟨H8 P,key _ (Ez P) (IE P)⟩
theorem t7{P:Of}{C:Addr}(h:vj C):Stores (KK P) C:=by
 subst h;refine⟨Kj P,?_⟩
 obtain⟨cd,hc,hd⟩:=Vy (Dh P);have hm:=Iv P;rw[hc] at hm;simp only[OD,TC] at hm;refine⟨cd,hc,hd,by rw[hm];rfl,by rw[hm];simp,fun x => ?_⟩
 rw[hm,refuseLoop_ref];exact F.store_Exception.passes _
theorem tO{n:Nat}(h:n<=1000):n+1<=Qv+1:=by
 have:(1001:Nat)<=Qv:=by decide
 exact bX this h
theorem ue {prog:Q0} {w:World} {A:Around} {E:Value->Shared->Prop} {s:Shared} {K:U3} {x C dx:Addr} {ox:Obj} {od:Option Obj} {name:Str} {v:Value} {Q:Unit->Shared->Prop} {mA:Str->Option Value} {ns:List Str}
  (X:K.In s.heap) (I:InstAt s.heap x ox C od) (hS:Stores K C) (ha:PU K (.ref C) name=some none) (hd:ox.dict=some dx) (hn:s.heap.Ns1 dx mA) (hw:Within mA ns) (hz:ns.length<=1000)
  (hQ : ∀h' t',h'.Ns1 dx (fun y=>if y=name then some v else mA y)->Q1 dx s.heap h'->Q () {s with heap:=h',toks:=t'}):N5 (M' prog w) A (UX (.ref x) name v) Q E s:=by
 obtain⟨hs,cd,hc,hd',hne,hob,hrf⟩:=hS;refine set_plain X I hs ?_
 have SF:=PySem.F.store_object;have sub:P2 (M' prog w) s.heap (Rn (.ref x) (.type "object")) true:=I.type.andThen (R7 X (by unfold X';rw[hc,UM,if_neg (by rw[hne];decide),hob]))
 refine Q3 SF.slot.plain SF.entry (@Wh (M' prog w) _ _ {s with toks:=s.toks+1} "object.__setattr__" "object" "__setattr__" (.ref x) [.str name s.toks,v] [] _ SF.kind SF.split sub (SF.args (.ref x) (.str name s.toks) v) ?_)
 have hm:P2 (M' prog w) s.heap (mroOf (.ref C)) cd.mro:=(R8 X hc).andThen .now;have hT:=I.type (M:=M' prog w);have L3:P2 (M' prog w) s.heap (storeTaker? none) none := .now;have LA:=Rd (M:=M' prog w) X ha;have LC:=R8 (M:=M' prog w) X hc;obtain⟨hx,hcl,hno,-⟩:=I;obtain⟨hp,g,dr,tk,os⟩:=s;rw[osa_eq,refuse_eq];refine u' (u' (hT.at (u' (hm.at ?_))))
 rw[hrf];refine J' (u' (hT.at (u' (LA.at (u' (L3.at ?_))))))
 obtain⟨oc,odi,oda,osl⟩:=ox;dsimp only at hcl hd;subst hcl hd;show N5 _ _ (storeInOwnDict (.ref x) (.ref C) (.str name tk) name v false) _ _ _
 refine u' (J' (u' (u' (X2 hx (u' (LC.at ?_))))))
 rw[hd'];refine J' (a:=some dx) (u' (J' (u' (wpAny_nsSet1 hn fun h' hn' hs => ?_))))
 obtain⟨oD,esD,epD,hoD,hdD,hcD⟩:=hn'.count (Wg name v hw);refine u' (WU hoD (by rw[hdD];exact WW (N0 hcD (tO hz))) ?_)
 exact J' (hQ _ _ hn' hs)
theorem yz {prog:Q0} {w:World} {A:Around} {E:Value->Shared->Prop} {s:Shared} {K:U3} {x C:Addr} {ox:Obj} {vs:Array Value} {name:Str} {v:Value} {Q:Unit->Shared->Prop}
  (X:K.In s.heap) (I:InstAt s.heap x ox C none) (hS:Stores K C) (ha:PU K (.ref C) name=some none) (hd:ox={cls := .ref C,dict:=none,data := .fields vs,slots := #[]})
  (hQ : ∀h' d t',s.heap.get? d=none->h'.Ns1 d (fun y=>if y=name then some v else none)->h'.get? x=some {cls := .ref C,dict:=some d,data := .fields vs,slots := #[]}->(∀b o,b≠x->s.heap.get? b=some o->h'.get? b=some o)->Q () {s with heap:=h',toks:=t'}):N5 (M' prog w) A (UX (.ref x) name v) Q E s:=by
 obtain⟨hs,cd,hc,hd',hne,hob,hrf⟩:=hS;refine set_plain X I hs ?_
 have SF:=PySem.F.store_object;have sub:P2 (M' prog w) s.heap (Rn (.ref x) (.type "object")) true:=I.type.andThen (R7 X (by unfold X';rw[hc,UM,if_neg (by rw[hne];decide),hob]))
 refine Q3 SF.slot.plain SF.entry (@Wh (M' prog w) _ _ {s with toks:=s.toks+1} "object.__setattr__" "object" "__setattr__" (.ref x) [.str name s.toks,v] [] _ SF.kind SF.split sub (SF.args (.ref x) (.str name s.toks) v) ?_)
 have hm:P2 (M' prog w) s.heap (mroOf (.ref C)) cd.mro:=(R8 X hc).andThen .now;have hT:=I.type (M:=M' prog w);have L3:P2 (M' prog w) s.heap (storeTaker? none) none := .now;have LA:=Rd (M:=M' prog w) X ha;have LC:=R8 (M:=M' prog w) X hc;obtain⟨hx,hcl,hno,-⟩:=I;subst hd;obtain⟨hp,g,dr,tk,os⟩:=s;rw[osa_eq,refuse_eq];refine u' (u' (hT.at (u' (hm.at ?_))))
 rw[hrf];refine J' (u' (hT.at (u' (LA.at (u' (L3.at ?_))))))
 show N5 _ _ (storeInOwnDict (.ref x) (.ref C) (.str name tk) name v false) _ _ _
 refine u' (J' (u' (u' (X2 hx (u' (LC.at ?_))))))
 rw[hd'];have V2:(hp.push {cls := .type "dict",data := .dict #[]}).get? x=some {cls := .ref C,dict:=none,data := .fields vs,slots := #[]}:=Pb _ hx;have hxs:x≠hp.objs.size:=PK (PC hx);show N5 _ _ (alloc {cls := .type "dict",data := .dict #[]}>>=fun d=>update x (fun o=>{o with dict:=some d})>>=fun _=>dictMade (.ref C) x d) _ _ _
 refine u' (wpAny_alloc' ?_)
 refine u' (wpAny_update' V2 ?_)
 refine J' (a:=some hp.objs.size) ?_
 have hgd:((hp.push {cls := .type "dict",data := .dict #[]}).update x fun o=>{o with dict:=some hp.objs.size}).get? hp.objs.size=some {cls := .type "dict",data := .dict #[]}:=
  (Ux _ _ _ _ hxs.symm).trans (Heap.get?_push_at rfl rfl)
 have hnd:((hp.push {cls := .type "dict",data := .dict #[]}).update x fun o=>{o with dict:=some hp.objs.size}).Ns hp.objs.size (fun _=>none):=
  ⟨_,#[],_,hgd,rfl,fun e he=>absurd he (by simp),fun _=>rfl⟩
 show N5 _ _ (storeInDict hp.objs.size (.str name tk) name v) _ _ _
 unfold storeInDict newKeyGuard;refine u' (J' (u' (wpAny_nsSet1 (T7 hnd) fun h' hn' hs => ?_)))
 obtain⟨oD,esD,epD,hoD,hdD,hcD⟩:=hn'.count (Wg name v Within.nil);refine u' (WU hoD (by rw[hdD];exact WW (N0 hcD (tO (n:=0) (by decide)))) ?_)
 refine J' (hQ h' hp.objs.size _ (dP _) hn' ?_ fun b o hb e => ?_)
 ·refine(hs.2 x hxs).trans (Qb _ V2 rfl)
 ·have hbs:b≠hp.objs.size:=PK (PC e)
  exact(hs.2 b hbs).trans ((Ux _ _ _ _ hb).trans (Pb _ e))
end Mine
end
section
open PyProof
namespace Mine
variable{c:Cx}{ρ:aq}{Γ:ag}{T:Tab}{O:aL}{m:Md}
section
theorem gb{α:Type}{M:PySem.Model}{A:Around}{t t':Su α}{P:α->Shared->Prop}{E:Value->Shared->Prop}{s:Shared}(e:t=t')(h:N5 M A t' P E s):N5 M A t P E s:=e▸h
theorem te{x:Str}{es:List DictEntry}(hk : ∀e∈es,∃n t,e.key = .str n t):es.any (·.refKey)=false:=by
 rw[Va];intro en hen;obtain⟨n,t,hk'⟩:=hk en hen;simp[DictEntry.refKey,hk']
theorem gA{h:Po}{d:Addr}{mA:Str->Option Value}(N:h.Ns1 d mA): ∃od,h.get? d=some od/\∀x,lookIn x od=some (mA x):=by
 obtain⟨o,es,ep,ho,hd,hk,hu,hf⟩:=N;refine⟨o,ho,fun x => ?_⟩
 have e:=hf x;unfold nsFind findBy at e;unfold lookIn;rw[hd];dsimp only;rw[Array.find?_toList]
 cases q:es.find? (fun e=>e.key.isStr x) with
 |some en=>rw[q] at e;rw[<-e];rfl
 |none=>
  rw[q] at e;rw[<-e,te (x:=x) fun en hen=>hk en (Ud.mp hen)];rfl
theorem vw{v r:V}(h:kP v=some r):r=v/\v.isVal=false:=by
 unfold kP at h;cases q:v.isVal with
 |true=>rw[q] at h;exact aE h
 |false=>rw[q] at h;exact⟨(j' h).symm,rfl⟩
theorem qr{τ θ}{v:V}{u:Value}(h:v.isVal=false)(r:VV τ θ v u):handedIn u=true:=by
 cases v with
 |loc n=>obtain⟨a,rfl,_⟩:=r;rfl
 |d x=>
  cases x with
  |val x=>exact H' h
  |none=>subst r;rfl
  |bool=>subst r;rfl
  |int=>obtain⟨t,rfl⟩:=r;rfl
  |str=>obtain⟨t,rfl⟩:=r;rfl
  |_=>obtain⟨t,rfl,_⟩:=r;rfl
theorem rp{n:Nat}{x:Str}(h:AN[n]?=some x):AN.getD n ""=x/\x∈AN:=⟨by simp[O8,h],Og h⟩
theorem vB{n:Nat}{d:D}: ∀{fs:List (Nat×D)},dF n fs=some d->dF n (fs.map fun p=>(p.1,V.d p.2))=some (.d d):=fun{fs} h=>by
 induction fs with
 |nil=>exact aE h
 |cons y r ih=>
  show cond (I' n y.1) _ _=_
  change cond (I' n y.1) _ _=_ at h
  cases q:I' n y.1 with
  |true=>rw[q] at h;exact congrArg (fun o=>o.map V.d) h
  |false=>rw[q] at h;exact ih h
theorem v7{n:Nat}{d:D}: ∀{fs:List (Nat×D)},(putN n d fs).map (fun p=>(p.1,V.d p.2))=putN n (.d d) (fs.map fun p=>(p.1,V.d p.2)):=fun{fs}=>by
 induction fs with
 |nil=>rfl
 |cons y r ih=>
  show List.map _ (cond (I' n y.1) _ _)=cond (I' n y.1) _ _
  cases I' n y.1 with
  |true=>rfl
  |false=>exact congrArg (List.cons _) ih
theorem w3{n a:Nat}{C:Addr}{fs:List (Nat×V)}{v:V}{a':Addr}{τ θ s}(hg:bq Γ a=some (.inst C fs))(hv:dF n fs=some v)(hn:v.isVal=false)(S:SR c τ θ ρ Γ s)(Pa:θ[a]?=some a'):N5 (M' PG c.w) c.A (UZ (.ref a') (AN.getD n "") true) (IP c τ θ ρ Γ v) bh s:=by
 obtain⟨σ,K,ha,d,mA,h1,h2,h3,⟨h4,h4'⟩,h5⟩:=S.c4 Pa hg;obtain⟨x,w,e1,e2,e3⟩:=h5 _ _ hv;obtain⟨e4,e5⟩:=rp e1;obtain⟨od,o1,o2⟩:=gA h2;rw[e4];have hd:Td (KK c.w.params) C=true:=by rcases h4' with rfl | rfl;exact Em _;exact Ez _
 have hga:PU (KK c.w.params) (.ref C) "__getattribute__"=some (some (.builtin "object.__getattribute__")):=by rcases h4' with rfl | rfl;exact Aw _;exact Ir _
 exact get_value S.K (ox:=⟨.ref C,some d,.plain,#[]⟩) (od:=some od) ⟨h1,rfl,rfl,o1⟩ hga (findObj_own hd (I6 h4' e5) rfl (by rw[o2,e2])) (qr hn e3) ⟨e3,S.tok _⟩
theorem yj{n a:Nat}{C:Addr}{fs:List (Nat×D)}{ctx T:Bool}{v:D}{a':Addr}{τ θ s}(hg:bq Γ a=some (.exc C fs ctx T))(hv:dF n fs=some v)(hn:(V.d v).isVal=false)(S:SR c τ θ ρ Γ s)(Pa:θ[a]?=some a'):N5 (M' PG c.w) c.A (UZ (.ref a') (AN.getD n "") true) (IP c τ θ ρ Γ (.d v)) bh s:=by
 obtain⟨σ,K,ha,od,mA,vs,h1,h2,h3,⟨h4,h4'⟩,h5,_⟩:=S.c4 Pa hg;obtain⟨x,w,e1,e2,e3⟩:=h5 _ _ (vB hv);obtain⟨e4,e5⟩:=rp e1;cases od with
 |none=>rw[h3 rfl x] at e2;exact aE e2
 |some d=>
 obtain⟨od,o1,o2⟩:=gA (h2 d rfl).1;rw[e4];cases (show C=84 from h4')
 exact BA S.K (ox:=⟨.ref 84,some d,.fields vs,#[]⟩) (od:=some od) ⟨h1,rfl,rfl,o1⟩ (J6 _) (Kq _) (FQ _) (findObj_own (Dh _) (Gg h4' e5) rfl (by rw[o2,e2])) (qr hn e3) ⟨e3,S.tok _⟩
theorem tJ{n:Nat}{x r:V}{u:Value}{τ θ s}(h:kB Γ n x=some r)(S:SR c τ θ ρ Γ s)(hx:VV τ θ x u):N5 (M' PG c.w) c.A (UZ u (AN.getD n "") true) (IP c τ θ ρ Γ r) bh s:=by
 obtain⟨a,ha,h⟩:=ai h;obtain⟨m,hg,h⟩:=ai h;obtain⟨v,hv,h⟩:=ai h;obtain⟨rfl,hn⟩:=vw h;obtain rfl:=V.jm ha;obtain⟨a',rfl,Pa⟩:=hx;cases m with
 |inst C fs=>exact w3 hg hv hn S Pa
 |exc C fs x t=>obtain⟨d,hd,rfl⟩:=aJ hv;exact yj hg hd hn S Pa
 |_=>exact aE hv
noncomputable def Ex.based(e:Ex):Bool := !(I' e.ctorIdx 23||I' e.ctorIdx 24||I' e.ctorIdx 25)
theorem pG{a:Ex}(h:a.based=true)(T:Tab)(ns:List Str)(n:Str)(env:R0)(w:Su Value):YF (a.back T ns) n env w=w:=by
 cases a<;>first | rfl | (injection h;done)
theorem De{a n p}(ha:SE c T O m a)(hb:a.based=true):SE c T O m (.attr a n p):=fun ρ Γ => .of fun τ θ s hn S=>
 Attribute_any_ ((ha ρ Γ).go hn S (.refl _ _) fun u OU Oo OC x Od Oj Oz _ OL Ot n₁ OA=>fR n₁ OA Oz fun z h=>Ob (tJ h Ot OL) (fun w s' h => .here h.1 h.2) fun _ _ x=>x) (by rw[arm_eval_Attribute,pG hb])
theorem v8{α:Type}{k:Nat}{v:α}{i:Nat}: ∀{l:List (Nat×α)},dF i (putN k v l)=cond (I' i k) (some v) (dF i l):=fun{l}=>by
 induction l with
 |nil=>rfl
 |cons x r ih=>
  show dF i (cond (I' k x.1) _ _)=cond (I' i k) (some v) (cond (I' i x.1) _ _)
  cases q:I' k x.1 with
  |true=>
   rw[<-N2 q];show cond (I' i k) _ _=_
   cases I' i k<;>rfl
  |false=>
   show cond (I' i x.1) _ _=_
   cases q2:I' i x.1 with
   |false=>exact ih
   |true=>rw[N2 q2,show I' x.1 k=false from Vc.mpr fun e=>by rw[N2 e,OZ] at q;exact H' q];rfl
theorem ym:AN.Nodup:=by decide +kernel
theorem fh{n:Nat}{m:Mu}(hg:bq Γ n=some m):Γ[n]?=some (some m):=jk hg
theorem uu{τ θ fs mA n x v w}(h:qK τ θ fs mA)(hx:AN[n]?=some x)(r:VV τ θ v w):qK τ θ (putN n v fs) (fun y=>if y=x then some w else mA y):=fun i u e=>by
 rw[v8] at e;cases q:I' i n with
 |true=>
  rw[q] at e;exact⟨x,w,by rw[N2 q];exact hx,if_pos rfl,j' e▸r⟩
 |false=>
  rw[q] at e;obtain⟨y,w',h1,h2,h3⟩:=h i u e;exact⟨y,w',h1,(if_neg fun(e:y=x)=>PM q (jq ym h1 (e▸hx))).trans h2,h3⟩
theorem qh{mA:Str->Option Value}(h:k4 mA):Within mA AN:=fun z hz=>Sw fun q=>hz (h z q)
theorem kq{mA:Str->Option Value}{y:Str}{w:Value}(h:k4 mA)(hy:y∈AN):k4 (fun z=>if z=y then some w else mA z):=fun z hz=>(if_neg fun(e:z=y)=>hz (e▸hy)).trans (h z hz)
theorem SR.chg{τ θ s σ}{n:Nat}{a d:Addr}{m m':Mu}{h':Po}(t:Nat)(S:SR c τ θ ρ Γ s)(Pa:θ[n]?=some a)(K:OK c σ τ θ ρ Γ s.heap)(ha:σ a=some (.mu m))(hd:σ d=some (.sub a))(hs:Q1 d s.heap h')(hy : ∃o,h'.get? d=some o)(H:At (upd σ a (.mu m')) τ θ c.w h' a (.mu m')):SR c τ θ ρ (Γ.set n (some m')) {s with heap:=h',toks:=t}:=
 ⟨S.wf,S.rl,⟨_,K.change S.wf Pa ha (fun b o hb hsb e=>(hs.2 b fun e=>hsb (e▸hd)).trans e) (fun b e=>by
  by_cases hb:b=d
  ·rw[hb];exact hy
  ·obtain⟨o,ho⟩:=K.there e;exact⟨o,(hs.2 b hb).trans ho⟩) H⟩,S.base,S.gens,S.os⟩
theorem lU{h:Po}{d:Addr}{mA}(N:h.Ns1 d mA): ∃o,h.get? d=some o:=by
 obtain⟨o,_,_,ho,_⟩:=N;exact⟨o,ho⟩
theorem q7{σ:Addr->Option Own}{a d:Addr}{m:Mu}(ha:σ a=some (.mu m))(hd:σ d=some (.sub a)):d≠a:=fun e=>by rw[e,ha] at hd;exact Own.noConfusion (j' hd)
section
variable{n k:Nat}{y:Str}{v:V}{w:Value}{Γ':ag}{a' C:Addr}{τ:aF}{θ:aX}{s:Shared}
theorem yc{fs:List (Nat×V)}(hg:bq Γ k=some (.inst C fs))(hy:AN[n]?=some y)(hm:y∈AN)(S:SR c τ θ ρ Γ s)(Pa:θ[k]?=some a')(hv:VV τ θ v w):N5 (M' PG c.w) c.A (UX (.ref a') y w) (fun _ s'=>SR c τ θ ρ (Γ.set k (some (.inst C (putN n v fs)))) s') bh s:=by
 obtain⟨σ,K,ha,d,mA,h1,h2,h3,⟨h4,h4'⟩,h5⟩:=S.c4 Pa hg;obtain⟨od,o1,o2⟩:=gA h2;have hda:=q7 ha h3;exact ue S.K (ox:=⟨.ref C,some d,.plain,#[]⟩) (od:=some od) ⟨h1,rfl,rfl,o1⟩ (Cp h4') (I6 h4' hm) rfl h2 (qh h4) (by decide) fun h' t' N' hs=>
  S.chg t' Pa K ha h3 hs (lU N') ⟨d,_,(hs.2 _ hda.symm).trans h1,N',(bu hda).trans h3,⟨kq h4 hm,h4'⟩,uu h5 hy hv⟩
theorem y7{fs:List (Nat×D)}{ctx T:Bool}{dd:D}(hg:bq Γ k=some (.exc C fs ctx T))(hy:AN[n]?=some y)(hm:y∈AN)(S:SR c τ θ ρ Γ s)(Pa:θ[k]?=some a')(hv:VV τ θ (.d dd) w):N5 (M' PG c.w) c.A (UX (.ref a') y w) (fun _ s'=>SR c τ θ ρ (Γ.set k (some (.exc C (putN n dd fs) ctx T))) s') bh s:=by
 obtain⟨σ,K,ha,od,mA,vs,h1,h2,h3,⟨h4,h4'⟩,h5,h6⟩:=S.c4 Pa hg;have hf:qK τ θ ((putN n dd fs).map fun p=>(p.1,V.d p.2)) (fun z=>if z=y then some w else mA z):=v7▸uu h5 hy hv
 cases od with
 |some d=>
  obtain⟨h2,h3⟩:=h2 d rfl;obtain⟨od,o1,o2⟩:=gA h2;have hda:=q7 ha h3;exact ue S.K (ox:=⟨.ref C,some d,.fields vs,#[]⟩) (od:=some od) ⟨h1,rfl,rfl,o1⟩ (t7 h4') (Gg h4' hm) rfl h2 (qh h4) (by decide) fun h' t' N' hs=>
   S.chg t' Pa K ha h3 hs (lU N') ⟨some d,_,vs,(hs.2 _ hda.symm).trans h1,fun x e=>j' e▸⟨N',(bu hda).trans h3⟩,fun e=>aE e.symm,⟨kq h4 hm,h4'⟩,hf,h6⟩
 |none=>
  have hmA:mA=fun _=>none:=funext (h3 rfl)
  rw[hmA] at hf h4;exact yz S.K (ox:=⟨.ref C,none,.fields vs,#[]⟩) ⟨h1,rfl,rfl,trivial⟩ (t7 h4') (Gg h4' hm) rfl fun h' d t' hd N' hx' keep=>by
   have hda:d≠a':=fun e=>by rw[<-e,hd] at h1;exact aE h1
   have fd:σ d=none:=K.fresh hd;exact⟨S.wf,S.rl,⟨_,K.t9 S.wf (m' := .exc C (putN n dd fs) ctx T) Pa ha (σ':=upd (upd σ a' (.mu (.exc C (putN n dd fs) ctx T))) d (.sub a')) ((bu hda.symm).trans cM) (fun b o hb e=>(bu fun q=>by rw[q,fd] at e;exact aE e).trans ((bu hb).trans e)) (fun b o e=>by
     by_cases hbd:b=d
     ·rw[hbd,cM] at e;exact .inr (.inr ⟨(j' e).symm,hbd▸lU N'⟩)
     ·rw[bu hbd] at e
      by_cases hba:b=a'
      ·exact .inl hba
      ·rw[bu hba] at e;exact .inr (.inl e)) (fun b o hb _ e=>keep b o hb e) (fun b e=>by
     obtain⟨o,ho⟩:=K.there e;exact⟨o,keep b o (fun q=>by rw[q,ha] at e;exact Own.noConfusion (j' e)) ho⟩) ⟨some d,_,vs,hx',fun x e=>j' e▸⟨N',cM⟩,fun e=>aE e.symm,⟨kq h4 hm,h4'⟩,hf,h6⟩⟩,S.base,S.gens,S.os⟩
theorem ub{x:V}{u:Value}(h:q0 Γ n v x=some Γ')(hn:n<26)(S:SR c τ θ ρ Γ s)(hx:VV τ θ x u)(hv:VV τ θ v w):N5 (M' PG c.w) c.A (UX u (AN.getD n "") w) (fun _ s'=>SR c τ θ ρ Γ' s') bh s:=by
 obtain⟨k,hk,h⟩:=ai h;obtain⟨m,hg,h⟩:=ai h;obtain⟨m',hm,rfl⟩:=aJ h;have hy:AN[n]?=some AN[n]:=N8 (show n<AN.length from hn)
 obtain⟨e4,e5⟩:=rp hy;rw[e4];obtain rfl:=V.jm hk;obtain⟨a',rfl,Pa⟩:=hx;cases m with
 |inst C fs=>injection hm with hm;subst hm;exact yc hg hy e5 S Pa hv
 |exc C fs ctx T=>
  obtain⟨d,hd,rfl⟩:=aJ hm;obtain rfl:=V.cf hd;exact y7 hg hy e5 S Pa hv
 |_=>exact aE hm
end
theorem Gh{a n p}(ha:SE c T O m a)(hn:n<26):SA c T O m (.attr a n p):=fun ρ Γ v u τ θ s hne S r=>
 gb (assign_Attribute ..) (u' (wpAny_holding ((ha ρ Γ).go hne S (.refl _ _) fun w OU Oo OC x Od Oj Oz _ OL Ot n₁ OA=>
  u' (PN (u' (wpAny_holding (bt n₁ OA fun Γ' q _ e=>
   fA (Ob (ub q hn Ot OL (VV.mono Oz.l Oz.k r)) (fun _ s' S'=>Yd (.fin Oz (R:=RU) (b:=()) trivial S' e)) fun _ _ x=>x))))))))
theorem SR.uQ{τ θ s}(S:SR c τ θ ρ Γ s){n:Nat}{a:Addr}{m m':Mu}{h':Po}(t:Nat)(Pa:θ[n]?=some a)(hg:bq Γ n=some m)(hs:Q1 a s.heap h')(H : ∀σ,At σ τ θ c.w h' a (.mu m')):SR c τ θ ρ (Γ.set n (some m')) {s with heap:=h',toks:=t}:=by
 obtain⟨σ,K,ha,_⟩:=S.c4 Pa hg;refine⟨S.wf,S.rl,⟨_,K.change S.wf (m':=m') Pa ha (fun b o hb _ e=>(hs.2 b hb).trans e) (fun b e => ?_) (H _)⟩,S.base,S.gens,S.os⟩
 obtain⟨o,ho⟩:=K.there e;exact⟨o,(hs.2 b (fun q=>by rw[q,ha] at e;exact Own.noConfusion (j' e))).trans ho⟩
theorem iP{prog w}{K:Type} [DecidableEq K]{knd:KeyKind prog w K}{h:Po}{a:Addr}{kvs:List (K×Value)}(x:h.DictOf knd a kvs):(kvs.map (·.1)).Nodup:=by
 obtain⟨o,_,es,ep,_,_,_,_,hn⟩:=Heap.dictOf_iff.mp x;exact hn
theorem tC{K:Type} [DecidableEq K]{y k:K}{v' v:Value}{r:List (K×Value)}(h:y≠k):S9 ((y,v')::r) k v=(y,v')::S9 r k v:=by
 unfold S9;simp only[Rk,h,decide_false,Bool.false_or,Oa,if_false];cases r.any fun p=>decide (p.1=k)<;>rfl
theorem tc{K:Type} [DecidableEq K]{k:K}{v' v:Value}{r:List (K×Value)}(h:k∉r.map (·.1)):S9 ((k,v')::r) k v=(k,v)::r:=by
 unfold S9;simp only[Rk,decide_true,Bool.true_or,if_true,Oa];congr 1;have : ∀p∈r,(if p.1=k then(p.1,v) else p)=p:=fun p hp=>if_neg (by rintro rfl;exact h (Ph hp))
 rw[QV this];simp
theorem bD.Gz{E K J:Type} [DecidableEq J]{R:E->Value->Prop}{f:K->J}{beq:K->K->Bool}(hb : ∀a b,beq a b=true↔f a=f b){put:List (K×E)->List (K×E)}{k:K}{e:E}{v:Value}(r:R e v)(p0:put []=[(k,e)])(p1 : ∀x l,put (x::l)=cond (beq k x.1) ((x.1,e)::l) (x::put l)): ∀{l:List (K×E)} {kvs:List (J×Value)},bD R f l kvs->(kvs.map (·.1)).Nodup->bD R f (put l) (S9 kvs (f k) v):=fun{l}=>by
 induction l with
 |nil=>intro kvs h nd;cases kvs with
  |nil=>rw[p0];exact⟨rfl,r,trivial⟩
  |cons=>exact h.elim
 |cons x l ih=>intro kvs h nd;cases kvs with
  |nil=>exact h.elim
  |cons y kvs=>
   obtain⟨n1,n2⟩:=Py.mp nd;rw[p1,show y=(y.1,y.2) from rfl]
   cases q:beq k x.1 with
   |true=>
    have e1:=(hb _ _).mp q;rw[show y.1=f k from h.1.symm.trans e1.symm,tc (by rw[e1,h.1];exact n1)]
    exact⟨e1.symm,r,h.2.2⟩
   |false=>
    rw[tC fun e=>by rw[(hb _ _).mpr (e.symm.trans h.1.symm)] at q;exact H' q]
    exact⟨h.1,h.2.1,ih h.2.2 n2⟩
theorem bD.put{E:Type}{R:E->Value->Prop}{k:Tx}{e:E}{v:Value}(r:R e v){l:List (Tx×E)}{kvs:List (Str×Value)}:bD R aP l kvs->(kvs.map (·.1)).Nodup->bD R aP (aQ k e l) (S9 kvs (aP k) v):=
 bD.Gz (beq:=ao) (put:=aQ k e) (fun a b=>(fD a b).trans ⟨congrArg _,mx⟩) r rfl fun _ _=>rfl
theorem bD.iX{E:Type}{R:E->Value->Prop}{k:Int}{e:E}{v:Value}(r:R e v){l:List (Int×E)}{kvs:List (Int×Value)}:bD R id l kvs->(kvs.map (·.1)).Nodup->bD R id (Mine.iX k e l) (S9 kvs k v):=
 bD.Gz (f:=id) (beq:=gw) (put:=Mine.iX k e) (fun a b=>lW a b) r rfl fun _ _=>rfl
theorem vx{n k:Nat}(q:ay (n+1)=true)(e:n=k):k<=Qv:=e▸Nat.le_of_succ_le (cN q)
theorem Cd{k x v:V}{u i w:Value}{Γ':ag}{τ θ s}(h:ku Γ k v x=some Γ')(S:SR c τ θ ρ Γ s)(hx:VV τ θ x u)(hk:VV τ θ k i)(hv:VV τ θ v w):N5 (M' PG c.w) c.A (setItem u i w) (fun _ s'=>SR c τ θ ρ Γ' s') bh s:=by
 obtain⟨a,ha,h⟩:=ai h;obtain⟨m,hg,h⟩:=ai h;obtain⟨m',hm,rfl⟩:=aJ h;obtain rfl:=V.jm ha;obtain⟨a',rfl,Pa⟩:=hx;cases m with
 |sd l=>
  obtain⟨k,h1,hm⟩:=ai hm;obtain⟨_,h1,h2⟩:=V.of_eq h1;subst h1;obtain rfl:=D.cC h2;obtain⟨d,h3,hm⟩:=ai hm;obtain rfl:=V.cf h3;obtain⟨q,rfl⟩:=bF hm;obtain⟨t,rfl⟩:=hk;obtain⟨σ,K,ha,kvs,d1,d2⟩:=S.c4 Pa hg;exact So (QS ..) d1 (fun h' D' hs=>S.uQ _ Pa hg hs fun σ=>⟨_,D',bD.put (R:=VR τ) (e:=d) hv d2 (iP d1)⟩) (vx q d2.length)
 |vd l=>
  obtain⟨k,h1,hm⟩:=ai hm;obtain⟨_,h1,h2⟩:=V.of_eq h1;subst h1;obtain rfl:=D.cC h2;obtain⟨q,rfl⟩:=bF hm;obtain⟨t,rfl⟩:=hk;obtain⟨σ,K,ha,kvs,d1,d2⟩:=S.c4 Pa hg;exact So (QS ..) d1 (fun h' D' hs=>S.uQ _ Pa hg hs fun σ=>⟨_,D',bD.put (R:=VV τ θ) hv d2 (iP d1)⟩) (vx q d2.length)
 |nd l=>
  obtain⟨k,h1,hm⟩:=ai hm;obtain⟨_,h1,h2⟩:=V.of_eq h1;subst h1;obtain rfl:=D.cP h2;obtain⟨d,h3,hm⟩:=ai hm;obtain rfl:=V.cf h3;obtain⟨q,rfl⟩:=bF hm;obtain⟨t,rfl⟩:=hk;obtain⟨σ,K,ha,kvs,d1,d2⟩:=S.c4 Pa hg;exact So (Wd ..) d1 (fun h' D' hs=>S.uQ _ Pa hg hs fun σ=>⟨_,D',bD.iX (R:=VR τ) (e:=d) hv d2 (iP d1)⟩) (vx q d2.length)
 |_=>exact aE hm
theorem Hh{a i p}(ha:SE c T O m a)(hi:SE c T O m i):SA c T O m (.sub a i p):=fun ρ Γ v u τ θ s hne S r=>
 gb (assign_Subscript ..) (u' (wpAny_holding ((ha ρ Γ).go hne S (.refl _ _) fun w OU Oo OC x Od Oj Oz _ OL Ot n₁ OA=>
  u' (wpAny_holding ((hi Od Oj).go n₁ Ot Oz (fun j Pn Pu O5 y PJ PA PI m₂ PX OW Px O6=>
   u' (PN (u' (wpAny_holding (bt Px O6 fun Γ' q _ e=>
    fA (Ob (Cd q OW (VV.mono m₂.l m₂.k OL) PX (VV.mono PI.l PI.k r)) (fun _ s' S'=>Yd (.fin PI (R:=RU) (b:=()) trivial S' e)) fun _ _ x=>x)))))) OA)))))
theorem SA.go {α:Type} {t:Ex} (h:SA c T O m t) {d:V} {u:Value} {τ θ OJ OQ s} {k:Unit->aq->ag->Res α} {r0:Res α} {P:Unit->Shared->Prop} (hn:(t.bC O m T d ρ Γ).bind k≠ .no) (S:SR c τ θ ρ Γ s) (r:VV τ θ d u) (l:Lq OJ OQ τ θ)
  (K : ∀s' Ow OT O3 Γ',Lq OJ OQ Ow OT->Lq τ θ Ow OT->SR c Ow OT O3 Γ' s'->k () O3 Γ'≠ .no->r0=k () O3 Γ'->P () s') (e0:r0=(t.bC O m T d ρ Γ).bind k:=by rfl) :
  N5 (M' PG c.w) c.A (Ro (t.back T c.ns) c.env u) P (XP c OJ OQ r0.X) s:=
 uO (R:=RU) (h ρ Γ d u τ θ s (iR hn) S r) hn l (fun _ s' Ow OT _ O3 Γ' l1 l2 _ S1 n e=>K s' Ow OT O3 Γ' l1 l2 S1 n e) e0
theorem lJ{α β:Type}{R:aF->aX->β->α->Prop}{t:Su α}{r r':Res β}{τ OJ θ OQ s}(h:N5 (M' PG c.w) c.A t (QP c τ θ R r.Q) (XP c τ θ r.X) s)(l:Lq OJ OQ τ θ)(e:r'=r):N5 (M' PG c.w) c.A t (QP c OJ OQ R r'.Q) (XP c OJ OQ r'.X) s:=e▸lift l h
abbrev wB(c:Cx)(T:Tab)(O:aL)(m:Md)(es:bf):Prop := ∀ρ Γ vs us τ θ s,es.mi O m T vs ρ Γ≠ .no->SR c τ θ ρ Γ s->bT τ θ vs us->N5 (M' PG c.w) c.A (Uv ((PR (es.back T c.ns) c.env).map (·.2)) us) (QP c τ θ RU (es.mi O m T vs ρ Γ).Q) (XP c τ θ (es.mi O m T vs ρ Γ).X) s
theorem eX(e:Ex)(T:Tab)(ns:List Str)(r:List PySem.Expr)(env:R0):PR (e.back T ns::r) env=(false,Ro (e.back T ns) env)::PR r env:=by
 cases e<;>rfl
theorem EH:wB c T O m .nil:=fun ρ Γ vs us τ θ s hn S r=>by
 cases vs with
 |nil=>cases r.gh;exact Ut (.fin (.refl _ _) (R:=RU) (b:=()) trivial S rfl)
 |cons v vs=>exact absurd rfl hn
theorem Bc{e es}(h1:SA c T O m e)(h2:wB c T O m es):wB c T O m (.cons e es):=fun ρ Γ vs us τ θ s hn S r=>by
 cases vs with
 |nil=>exact absurd rfl hn
 |cons v vs=>
  obtain⟨u,us,rfl,r1,r2⟩:=r.dN;exact gb (congrArg (fun l=>Uv (l.map (·.2)) (u::us)) (eX e T c.ns (es.back T c.ns) c.env)) (RD (h1.go hn S r1 (.refl _ _) fun OU Oo OC Od Oj Oz m₁ Ot n₁ OA=>
   lJ (h2 Od Oj vs us Oo OC OU n₁ Ot (r2.mono m₁.l m₁.k)) Oz OA))
theorem q9(es:bf)(T:Tab)(ns:List Str)(env:R0):(PR (es.back T ns) env).length=es.len/\(PR (es.back T ns) env).findIdx? (·.1)=none:=by
 match es with
 | .nil=>exact⟨rfl,rfl⟩
 | .cons e r=>
  have:=q9 r T ns env;simp only[bf.back,eX,N6,this.1,bf.len,List.findIdx?_cons,this.2]
  exact⟨trivial,rfl⟩
theorem ID{es p}(h:wB c T O m es)(hm:m.b=true->c.A.handled=none):SA c T O m (.tup es p):=fun ρ Γ v u τ θ s hn S r=>
 bt hn rfl fun l hl n e=>eE n e fun q n e=>by
   obtain⟨hmb,q⟩:=Ol.mp q;obtain⟨_,h1,h2⟩:=V.of_eq hl;subst h1;obtain rfl:=D.gR h2;obtain⟨a,rfl,ht⟩:=r;obtain⟨vs,t1,t2⟩:=S.fY ht;obtain⟨l1,l2⟩:=q9 es T c.ns c.env;refine wpAny_assign_Tuple (hm hmb) t1 (by rw[l1,N2 q,t2.length,PH]) l2 fun h' hx => ?_
   rw[show(Ex.tup es p).bC O m T (.d (.tup l)) ρ Γ=_ from e]
   exact h ρ Γ _ _ τ θ _ n (S.heap s.toks fun σ K=>K.keeps fun b o e=>hx b o (PK (PC e)) e) t2.vv
theorem CW{op:Pq}{a b:Int}{t t':XA}{r:D}{τ θ s}(e:Ek op a b=some r)(S:SR c τ θ ρ Γ s):N5 (M' PG c.w) c.A (WZ op (.int a t) (.int b t')) (fun w s'=>VR τ r w/\SR c τ θ ρ Γ s') bh s:=by
 cases op with
 |Add=>injection e with e;subst e;exact XM ⟨⟨_,rfl⟩,S.tok _⟩
 |Sub=>injection e with e;subst e;exact XK ⟨⟨_,rfl⟩,S.tok _⟩
 |_=>exact aE e
theorem Ea{op:Pq}{a b r:D}{u v:Value}{τ θ s}(e:pe op a b=some r)(S:SR c τ θ ρ Γ s)(ha:VR τ a u)(hb:VR τ b v):N5 (M' PG c.w) c.A (WZ op u v) (fun w s'=>VR τ r w/\SR c τ θ ρ Γ s') bh s:=by
 cases a with
 |int a=>
  obtain⟨x,h1,e1⟩:=ai e;obtain rfl:=D.cP h1;obtain⟨t,rfl⟩:=ha;obtain⟨t',rfl⟩:=hb;exact CW e1 S
 |str a=>
  obtain⟨x,h1,e1⟩:=ai e;obtain rfl:=D.cC h1;obtain⟨h2,e2⟩:=cB e1;obtain⟨q,rfl⟩:=bF e2;obtain rfl:=kf h2;obtain⟨t,rfl⟩:=ha;obtain⟨t',rfl⟩:=hb;exact SB.iadd (fun t' k=>⟨⟨t',by rw[oH]⟩,S.tok _⟩) (by rw[bM,bM];exact cN q)
 |_=>exact aE e
theorem x4{op:Pq}{a r:D}{b:V}{u v:Value}{τ θ s}{P:Value->Shared->Prop}{E:Value->Shared->Prop}(q:b.d?.bind (pe op a)=some r)(S:SR c τ θ ρ Γ s)(ha:VR τ a u)(hb:VV τ θ b v)(k : ∀w s',VR τ r w->SR c τ θ ρ Γ s'->P w s'):N5 (M' PG c.w) c.A (WZ op u v) P E s:=by
 obtain⟨d,h1,e⟩:=ai q;obtain rfl:=V.cf h1;exact fA (Ob (Ea e S ha hb) (fun w s' h=>k w s' h.1 h.2) fun _ _ x=>x)
theorem H0{i op e pn p}(he:SE c T O m e)(hi:i<c.ns.length)(hc : ∀x,c.ns[i]?=some x->c.env.kindOf x≠some .free):SS c T O m (.aug i op e pn p):=fun ρ Γ => .of fun τ θ s hn S=>
 bt hn rfl fun a ha UC Ws=>by
  obtain⟨v,hv,h2⟩:=ai ha;obtain rfl:=V.cf h2;have hx:c.ns[i]?=some c.ns[i]:=N8 hi;exact gb (congrArg (fun y=>exec (.AugAssign (.Name y (aK pn)) op (e.back T c.ns) (aK p)) c.env) (iS hx)) (wpAny_AugAssign_Name (rG S hx (jk hv) fun old r=>
   (he ρ Γ).go UC S (.refl _ _) (fun u OU Oo OC d Od Oj Oz m₁ OL Ot n₁ OA=>bt n₁ OA fun w q _ O6=>
    x4 q Ot (VR.mono m₁.l r) OL fun z s' h1 h2=>iw h2 (d := .d w) h1 hx (hc _ hx) fun s'' S'' => .fin Oz (R:=RF) (b:=Fl.next) rfl S'' O6) Ws))
theorem Gr{a n op e pa p}(ha:SE c T O m a)(he:SE c T O m e)(hn:n<26):SS c T O m (.jw a n op e pa p):=fun ρ Γ => .of fun τ θ s hne S=>
 wpAny_AugAssign_AttributeAny ((ha ρ Γ).go hne S (.refl _ _) fun u OU Oo OC x Od Oj Oz _ OL Ot n₁ OA=>bt n₁ OA fun i hi Px O6=>by
  obtain⟨_,q,hi⟩:=ai hi;obtain⟨_,h1,h2⟩:=V.of_eq hi;subst h1;obtain rfl:=D.cP h2;exact fA (Ob (tJ q Ot OL) (fun w Pn h=>(he Od Oj).go Px h.2 Oz (fun v PY Rg RH y SG QY RO TP SV QQ RI Qt=>bt RI Qt fun r q2 Tt Si=>bt Tt Si fun Γ' q3 _ TQ=>
   x4 q2 QQ (VR.mono TP.l h.1) SV fun z s' h3 h4=>fA (Ob (ub q3 hn h4 (VV.mono TP.l TP.k OL) (v := .d r) h3) (fun _ s'' S'' => .fin RO (R:=RF) (b:=Fl.next) rfl S'' TQ) fun _ _ x=>x)) O6) fun _ _ x=>x))
theorem zO{τ θ}{d:V}{u:Value}{P:Prop}(q:oZ d=true)(r:VV τ θ d u)(h:P):(match (generalizing:=false) u with | .ref _=>False | _=>P):=by
 cases d with
 |loc n=>exact H' q
 |d x=>
  cases x with
  |none=>subst r;exact h
  |bool=>subst r;exact h
  |int=>obtain⟨t,rfl⟩:=r;exact h
  |str=>obtain⟨t,rfl⟩:=r;exact h
  |_=>exact H' q
theorem D6{e p}(he:SE c T O m e)(hi:interactive c.env=false)(hs:swapsWith (e.back T c.ns) none (aK p).line c.env=pure false):SS c T O m (.expr e p):=fun ρ Γ => .of fun τ θ s hn S=>
 wpAny_Expr ((he ρ Γ).go hn S (.refl _ _) fun u OU Oo OC d Od Oj Oz _ OL Ot n₁ OA=>eE n₁ OA fun q _ O6=>zO q OL (.fin Oz (R:=RF) (b:=Fl.next) rfl Ot O6)) hi hs
end
section
theorem mz{OJ:aF}{OQ:aX}{X:PE}{L:Addr}(hL:c.env.frame=some L):PassesOwn (M' PG c.w) c.A c.env (XP c OJ OQ X):=fun e s' hz=>by
 obtain⟨Ow,OT,n,a,O3,Γ',l,k,he,Pa,S,⟨C,fs,x,t,Qg⟩,hx⟩:=hz;subst he;refine gU S hL Qg Pa fun OU Oo Oz Ot => ?_
 obtain⟨oe,vs,h1,h2,_,h4,_,h5,x',h6,h7⟩:=Ot.exc (dH Qg) Pa;have hne:(x'==Value.none)=false:=by
  rw[beq_eq_false_iff_ne];rintro rfl;exact h5 rfl h6
 refine u' (PW h1 h2 h6 ?_)
 rw[hne];exact er Ot (dH Qg) Pa fun Pn OW=>⟨Oo,OT,n,a,O3,Γ',l.trans Oz,k,rfl,Pa,SR.jY Qg OW,⟨C,fs,x,t,Qg⟩,hx⟩
theorem rJ{α:Type}{M:PySem.Model}{A:Around}{t:Su α}{P:α->Shared->Prop}{E E':Value->Shared->Prop}{s:Shared}(h:N5 M A t P E s)(f : ∀e s',E e s'->E' e s'):N5 M A t P E' s:=Ob h (fun _ _ x=>x) f
inductive WI(c:Cx)(tt:aq->ag->Res Bool)(bb:aq->ag->Res Fl)(r:Res Fl)(τ:aF)(θ:aX)(n:Nat)(s':Shared):Prop
 |mk (Ow:aF) (OT:aX) (O3:aq) (Γ':ag) (l:Lq τ θ Ow OT) (S:SR c Ow OT O3 Γ' s') (e:fO tt bb n O3 Γ'=r)
theorem GW{t b p L}(ht:iZ c T O m t)(hb:ie c T O m b)(hL:c.env.frame=some L):SS c T O m (.nZ t b p):=fun ρ Γ => .of fun τ θ s hn S=>
 wpAny_While (codeAny_whileLoop (WI c (fun ρ Γ=>t.ev O m T ρ Γ) (fun ρ Γ=>b.ex T O m ρ Γ) ((St.nZ t b p).ex T O m ρ Γ) τ θ) (fun n OU hz=>by
  obtain⟨Oo,OC,Od,Oj,Oz,Ot,OA⟩:=hz;cases n with
  |zero=>exact absurd OA.symm hn
  |succ n=>
   refine rJ ((ht Od Oj).go (fun q=>hn (OA.symm.trans q)) Ot Oz (fun v Pn Pu O5 d PJ PA PI _ PX OW Px O6 => ?_) OA.symm) (mz hL)
   subst PX;cases v with
   |false=>exact Q5 (.fin PI (R:=RF) (b:=Fl.next) rfl OW O6)
   |true=>
    refine rJ ((hb PJ PA).go Px OW PI (fun f PY Rg RH fl SG QY RO _ SV QQ RI Qt => ?_) O6) (mz hL)
    cases fl with
    |next=>subst SV;exact⟨n,Qm n,Rg,RH,SG,QY,RO,QQ,Qt.symm⟩
    |cont=>subst SV;exact⟨n,Qm n,Rg,RH,SG,QY,RO,QQ,Qt.symm⟩
    |brk=>subst SV;exact .fin RO (R:=RF) (b:=Fl.next) rfl QQ Qt
    |ret d=>obtain⟨u,rfl,SV⟩:=SV;exact .fin RO (R:=RF) (b:=Fl.ret d) ⟨u,rfl,SV⟩ QQ Qt) rounds ⟨τ,θ,ρ,Γ,.refl _ _,S,rfl⟩)
noncomputable def Cx.hold(c:Cx)(I:Addr)(o:Obj):Cx:={c with held:=fun a=>if a=I then some (.it o) else c.held a}
theorem pA{I:Addr}{o:Obj}(W:c.WF)(hI:I≠c.env.locals)(hn:c.held I=none):(c.hold I o).WF:=by
 refine⟨W.base,W.kind,W.globals,W.builtins,W.eL,W.cX,W.vars,W.once,?_,fun a o' e => ?_,W.dW,W.above,W.depth,W.units,?_⟩
 ·simp only[Cx.hold];rw[if_neg (PF hI)];exact W.n7
 ·simp only[Cx.hold] at e
  split at e
  ·injection e with e;subst e;exact .inl ⟨_,rfl⟩
  ·exact W.fK a o' e
 ·obtain⟨l,h1,h2,h3⟩:=W.frames
  refine⟨l,h1,h2,fun e he => ?_⟩
  obtain⟨k,L,hL,q⟩:=h3 e he;refine⟨k,L,hL,q.imp_right ?_⟩
  rintro⟨m,q⟩;have:L≠I:=by rintro rfl;injection hn.symm.trans q
  exact⟨m,by simp[Cx.hold,this,q]⟩
set_option tactic.hygienic true in
theorem rF{σ:Addr->Option Own}{τ θ h}{I:Addr}{o:Obj}(K:OK c σ τ θ ρ Γ h)(hI:σ I=none)(ho:h.get? I=some o):OK (c.hold I o) (upd σ I (.it o)) τ θ ρ Γ h:=by
 have nI : ∀a x,σ a=some x->a≠I:=fun a x e q=>by subst q;injection hI.symm.trans e
 have up : ∀a x,σ a=some x->upd σ I (.it o) a=some x:=fun a x e=>by rw[bu (nI a x e)];exact e
 refine⟨fun a x e => ?_,fun a p => ?_,up _ _ K.fr,K.loc,fun i x hx hk => ?_,fun a x e => ?_,K.len,K.inj,fun n a e => ?_,fun n a m hm e=>up _ _ (K.d6 n a m hm e)⟩
 ·by_cases ha:a=I
  ·subst ha;injection (cM ..).symm.trans e with e;subst e;exact ho
  ·rw[bu ha] at e
   exact(K.at_ a x e).dQ (.refl _) (.refl _) _ (fun d f q=>up _ _ q) rfl fun _ _=>rfl
 ·rw[K.bp]
  constructor
  ·exact up _ _
  ·intro e
   by_cases ha:a=I
   ·subst ha;rw[cM] at e;cases e
   ·rw[bu ha] at e;exact e
 ·obtain⟨a,h1,h2,h3⟩:=K.cell i x hx hk
  exact⟨a,h1,up _ _ h2,h3⟩
 ·simp only[Cx.hold] at e
  split at e
  ·rename_i ha;subst ha;injection e with e;subst e;exact cM
  ·exact up _ _ (K.held a x e)
 ·obtain⟨x,h1,h2⟩:=K.eo n a e
  exact⟨x,up _ _ h1,h2⟩
theorem ir{σ:Addr->Option Own}{τ θ h}{I:Addr}(K:OK c σ τ θ ρ Γ h)(hI:σ I=none):c.held I=none:=by
 cases q:c.held I with
 |none=>rfl
 |some x=>rw[K.held _ _ q] at hI;injection hI
theorem jI{σ:Addr->Option Own}{τ θ s}{I:Addr}{o:Obj}(S:SR c τ θ ρ Γ s)(K:OK c σ τ θ ρ Γ s.heap)(hI:σ I=none)(ho:s.heap.get? I=some o):SR (c.hold I o) τ θ ρ Γ s:=
 ⟨pA S.wf (by rintro rfl;rw[K.fr] at hI;injection hI) (ir K hI),S.rl,⟨_,rF K hI ho⟩,S.base,S.gens,S.os⟩
set_option tactic.hygienic true in
theorem ll{τ θ s}{I:Addr}{o:Obj}{h':Po}(hn:c.held I=none)(S:SR (c.hold I o) τ θ ρ Γ s)(hs:RQ I s.heap h'): ∃σ:Addr->Option Own,σ I=none/\OK c σ τ θ ρ Γ h':=by
 obtain⟨σ,K⟩:=S.own;have hI:σ I=some (.it o):=K.held _ _ (by simp[Cx.hold])
 have nI : ∀a x,σ a=some x->(∀y,x≠ .it y)->a≠I:=fun a x e hx q=>by subst q;injection hI.symm.trans e with e;subst e;exact hx _ rfl
 classical
 let UD:Addr->Option Own:=fun a=>if a=I then none else σ a
 have up : ∀a x,σ a=some x->a≠I->UD a=some x:=fun a x e hne=>by simp[UD,hne,e]
 have SU : ∀a x,σ a=some x->a≠I->h'.get? a=s.heap.get? a:=fun a x e hne=>by
  obtain⟨y,hy⟩:=K.there e;exact(hs a y hne hy).trans hy.symm
 refine⟨UD,by simp[UD],⟨fun a x e => ?_,fun a p => ?_,up _ _ K.fr (nI _ _ K.fr (by simp)),K.sR (.refl _) (.refl _) (SU _ _ K.fr (nI _ _ K.fr (by simp))),fun i x hx hk => ?_,fun a x e => ?_,K.len,K.inj,fun n a e => ?_,fun n a m hm e => ?_⟩⟩
 ·simp only[UD] at e
  split at e
  ·injection e
  ·rename_i hne
   refine(K.at_ a x e).dQ (.refl _) (.refl _) _ (fun d f q=>up _ _ q (nI _ _ q (by simp))) (SU a x e hne) fun d hd=>SU d _ hd (nI _ _ hd (by simp))
 ·rw[K.bp]
  constructor
  ·intro e;exact up _ _ e (nI _ _ e (by simp))
  ·intro e
   simp only[UD] at e;split at e
   ·injection e
   ·exact e
 ·obtain⟨a,h1,h2,h3⟩:=K.cell i x hx hk
  have ne:=nI _ _ h2 (by simp)
  refine⟨a,h1,up _ _ h2 ne,fun v hv => ?_⟩
  obtain⟨u,h4,h5⟩:=h3 v hv;exact⟨u,dO (SU a _ h2 ne) h4,h5⟩
 ·have ne:a≠I:=by rintro rfl;injection hn.symm.trans e
  exact up _ _ (K.held a x (by simp[Cx.hold,ne,e])) ne
 ·obtain⟨x,h1,h2⟩:=K.eo n a e
  exact⟨x,up _ _ h1 (nI _ _ h1 (by rcases h2 with⟨_,rfl⟩ | ⟨_,rfl⟩<;>simp)),h2⟩
 ·have:=K.d6 n a m hm e
  exact up _ _ this (nI _ _ this (by simp))
theorem e6{τ θ s}{I:Addr}{o:Obj}{h':Po}(W:c.WF)(hn:c.held I=none)(S:SR (c.hold I o) τ θ ρ Γ s)(t:Nat)(hs:RQ I s.heap h'):SR c τ θ ρ Γ {s with heap:=h',toks:=t}:=
 let ⟨σ,_,K⟩:=ll hn S hs;⟨W,S.rl,⟨σ,K⟩,S.base,S.gens,S.os⟩
theorem m9{τ θ s}{I:Addr}{o o':Obj}{h':Po}(W:c.WF)(hn:c.held I=none)(S:SR (c.hold I o) τ θ ρ Γ s)(t:Nat)(hs:RQ I s.heap h')(ho:h'.get? I=some o'):SR (c.hold I o') τ θ ρ Γ {s with heap:=h',toks:=t}:=
 let ⟨_,hI,K⟩:=ll hn S hs;jI (e6 W hn S t hs) K hI ho
theorem xd{τ θ e s}{I:Addr}{o:Obj}{X:PE}(W:c.WF)(hn:c.held I=none)(h:XP (c.hold I o) τ θ X e s):XP c τ θ X e s:=by
 obtain⟨Ow,OT,n,a,O3,Γ',l,k,he,Pa,S,ix,hx⟩:=h;exact⟨Ow,OT,n,a,O3,Γ',l,k,he,Pa,e6 W hn S s.toks (fun _ _ _ e=>e),ix,hx⟩
noncomputable def jX:List String:=["list_iterator","tuple_iterator","str_ascii_iterator","str_iterator","dict_keyiterator","range_iterator"]
def xq(c:Cx)(vs:List V)(I:Addr)(IO:Nat->Obj->Prop)(OJ:aF):Prop := ∀(cc:Cx) i o τ θ ρ Γ s,cc.w=c.w->IO i o->Le OJ τ->SR (cc.hold I o) τ θ ρ Γ s->
 (∃Tn,o.cls = .type Tn/\Tn∈jX)/\
 (∀d,vs[i]?=some d->N5 (M' PG c.w) c.A (Wc (.ref I)) (fun r s' => ∃v o' h' tk,r=some v/\VV τ θ d v/\IO (i+1) o'/\s'={s with heap:=h',toks:=tk}/\h'.get? I=some o'/\RQ I s.heap h') bh s)/\
 (vs[i]?=none->i=vs.length->N5 (M' PG c.w) c.A (Wc (.ref I)) (fun r s' => ∃h' tk,r=none/\s'={s with heap:=h',toks:=tk}/\RQ I s.heap h') bh s)/\
 N5 (M' PG c.w) c.A (T2 (.ref I)) (fun r s'=>r = .ref I/\s'=s) bh s
theorem zR{t:PySem.Expr}{I:Addr}{v:Value}:Q6 t (.ref I) v=pure ()\/∃a,v = .ref a/\Q6 t (.ref I) v=(do
   let o<-load I
   match o.cls,o.data with
   | .type n,.fields vs=>
    if ["enumerate","zip","dict_itemiterator","dict_reverseitemiterator","odict_iterator","itertools.zip_longest","itertools.pairwise"].contains n&&vs[0]?==some (Ta a) then
     rule "for.unpacks-the-owned-tuple"
     TB I 0 .none
   |_,_=>pure ()):=by
 cases t with
 |Tuple _ _ _=>cases v with
  |ref a=>exact .inr ⟨a,rfl,rfl⟩
  |_=>exact .inl rfl
 |List _ _=>cases v with
  |ref a=>exact .inr ⟨a,rfl,rfl⟩
  |_=>exact .inl rfl
 |_=>exact .inl rfl
set_option tactic.hygienic true in
theorem xF{A:Around}{w:World}{E:Value->Shared->Prop}{s:Shared}{t:PySem.Expr}{I:Addr}{v:Value}{o:Obj}{Tn:String}{Q:Unit->Shared->Prop}(ho:s.heap.get? I=some o)(hc:o.cls = .type Tn)(hT:Tn∈jX)(h:Q () s):N5 (M' PG w) A (Q6 t (.ref I) v) Q E s:=by
 have hno:(["enumerate","zip","dict_itemiterator","dict_reverseitemiterator","odict_iterator","itertools.zip_longest","itertools.pairwise"].contains Tn)=false:=by
  simp only[jX,N7,Ou,or_false] at hT;rcases hT with rfl | rfl | rfl | rfl | rfl | rfl<;>decide
 have key : ∀a,v = .ref a->N5 (M' PG w) A (do
   let o<-load I
   match o.cls,o.data with
   | .type n,.fields vs=>
    if ["enumerate","zip","dict_itemiterator","dict_reverseitemiterator","odict_iterator","itertools.zip_longest","itertools.pairwise"].contains n&&vs[0]?==some (Ta a) then
     rule "for.unpacks-the-owned-tuple"
     TB I 0 .none
   |_,_=>pure ()) Q E s:=fun a _=>by
  refine u' (wpAny_load ho ?_)
  rw[hc];split
  ·rename_i n vs e1 e2
   injection e1 with e1;subst e1
   rw[hno,S5,if_neg (by simp)]
   exact J' h
  ·exact J' h
 rcases zR (t:=t) (I:=I) (v:=v) with e | ⟨a,e1,e2⟩
 ·rw[e];exact J' h
 ·rw[e2];exact key a e1
end
section
inductive WK(c:Cx)(vs:List V)(I:Addr)(IO:Nat->Obj->Prop)(τ:aF)(θ:aX)(i:Nat)(h:Po):Prop
 |mk (fp wr:List Addr) (P:Nat->Value->Prop) (St:Nat->Po->Prop) (W:Walks PG c.w c.A I fp wr vs.length P St) (hw : ∀b∈wr,b=I) (st:St i h) (nx : ∀h',St (i+1) h'->∃o',h'.get? I=some o'/\IO (i+1) o') (val : ∀d v,vs[i]?=some d->P i v->VV τ θ d v)
theorem xq.of {vs:List V} {I:Addr} {IO:Nat->Obj->Prop} {OJ:aF} (ht : ∀i o,IO i o->∃Tn,o.cls = .type Tn/\Tn∈jX)
  (W : ∀(cc:Cx) i o τ θ ρ Γ s,cc.w=c.w->IO i o->Le OJ τ->SR (cc.hold I o) τ θ ρ Γ s->s.heap.get? I=some o->WK c vs I IO τ θ i s.heap):xq c vs I IO OJ:=fun cc i o τ θ ρ Γ s hw hi l S=>by
 have hI:s.heap.get? I=some o:=by
  obtain⟨σ,K⟩:=S.own;exact K.at_ I (.it o) (K.held I (.it o) (if_pos rfl))
 obtain⟨fp,wr,P,St,W,hw',st,nx,hv⟩:=W cc i o τ θ ρ Γ s hw hi l S hI;exact⟨ht i o hi,fun d hd=>W.item i s _ _ (N3.mp hd).1 st fun v h' tk hP st' keep=>
   let ⟨o',ho',hio⟩:=nx h' st'
   ⟨v,o',h',tk,rfl,hv d v hd hP,hio,rfl,ho',fun b x hb e=>keep b x (fun q=>hb (hw' b q)) e⟩,
  fun hd hl=>W.done s _ _ (hl▸st) fun h' tk keep=>⟨h',tk,rfl,rfl,fun b x hb e=>keep b x (fun q=>hb (hw' b q)) e⟩,W.self i s _ _ st ⟨rfl,rfl⟩⟩
theorem rT{I a:Addr}{o:Obj}{τ θ s p}(S:SR (c.hold I o) τ θ ρ Γ s)(h:τ a=some p):a≠I:=by
 rintro rfl;obtain⟨σ,K⟩:=S.own;have h1:=(K.bp _ _).mp h;have h2:=K.held a (.it o) (by simp[Cx.hold])
 rw[h1] at h2;cases h2
theorem C1{l:List D}{i:Nat}{d:V}(h:(l.map V.d)[i]?=some d): ∃x,l[i]?=some x/\d = .d x:=by
 rw[Oc] at h;cases q:l[i]? with
 |none=>rw[q] at h;cases h
 |some x=>rw[q] at h;cases h;exact⟨x,rfl,rfl⟩
theorem zM{c:Int}{d:V}(n:Nat): ∀(a:Int) (i:Nat),(cQ a c n)[i]?=some d->d = .d (.int (a+i * c)):=by
 induction n with
 |zero=>intro a i h;exact aE h
 |succ n ih=>intro a i h;cases i with
  |zero=>rw[<-j' h,Int.natCast_zero,Int.zero_mul,Int.add_zero]
  |succ i=>rw[ih _ _ h,Int.natCast_add,Int.add_mul,Int.natCast_one,Int.one_mul,Int.add_comm (i * c),Int.add_assoc]
theorem zm{c:Int}(n:Nat): ∀(a:Int),(cQ a c n).length=n:=by
 induction n with
 |zero=>intro a;rfl
 |succ n ih=>intro a;exact congrArg (· + 1) (ih _)
theorem bD.Hg{K J E:Type}{R:E->Value->Prop}{f:K->J}: ∀{ds:List (K×E)} {vs:List (J×Value)},bD R f ds vs->∀{i:Nat} {p:K×E} {j:J} {x:Value},ds[i]?=some p->vs[i]?=some (j,x)->f p.1=j:=fun{ds}=>by
 induction ds with
 |nil=>intro vs _ i p j x h _;exact aE h
 |cons d ds ih=>intro vs H i p j x h h';cases vs with
  |nil=>exact H.elim
  |cons v vs=>cases i with
   |zero=>rw[<-j' h,H.1,j' h']
   |succ i=>exact ih H.2.2 h h'
inductive jd(c:Cx)(vs:List V)(τ:aF)(s:Shared)(it:Value)(s':Shared):Prop
 |mk (IO:Nat->Obj->Prop) (o:Obj) (h1:it = .ref s.heap.objs.size) (h2:s'={s with heap:=s.heap.push o}) (ho:(s.heap.push o).get? s.heap.objs.size=some o) (h3:IO 0 o) (W:xq c vs s.heap.objs.size IO τ)
def Fg(n:String)(f:Nat->Array Value)(i:Nat)(o:Obj):Prop:=o.cls = .type n/\o.data = .fields (f i)
theorem jd.of {vs:List V} {τ:aF} {s:Shared} {n:String} {f:Nat->Array Value} {o:Obj} (hn:n∈jX) (h:Fg n f 0 o) (hf:o.isFreed=false)
  (W : ∀(cc:Cx) i o Ow OT O3 Γ' s',cc.w=c.w->Fg n f i o->Le τ Ow->SR (cc.hold s.heap.objs.size o) Ow OT O3 Γ' s'->s'.heap.get? s.heap.objs.size=some o->WK c vs s.heap.objs.size (Fg n f) Ow OT i s'.heap):jd c vs τ s (.ref s.heap.objs.size) {s with heap:=s.heap.push o}:=
 ⟨_,o,rfl,rfl,Pw _ hf,h,.of (fun i o hi=>⟨_,hi.1,hn⟩) W⟩
section
variable{τ:aF}{θ:aX}{s:Shared}(hA:c.A.handled=none)(S:SR c τ θ ρ Γ s)
theorem ui{l:List D}{ws:Array Value}{τ:aF}{θ:aX}{i:Nat}{d:V}{v:Value}(t4:bz τ l ws.toList)(hd:(l.map V.d)[i]?=some d)(hP:ws[i]?=some v):VV τ θ d v:=by
 obtain⟨x,hx,rfl⟩:=C1 hd;obtain⟨w,w1,w2⟩:=t4.get hx;rw[TX,hP] at w1;exact(j' w1)▸w2
theorem rL{l:Tx}{i:Nat}{d:V}{v:Value}{τ:aF}{θ:aX}(hd:(l.map fun c=>V.d (.str [c]))[i]?=some d)(hP:SignAt (aP l) i v):VV τ θ d v:=by
 obtain⟨ch,u,h1,rfl⟩:=hP;rw[Oc,show l[i]?=some ch by simpa using h1] at hd
 injection hd with hd;subst hd
 exact⟨u,rfl⟩
include hA S
theorem yK{l:List D}{a:Addr}(ht:τ a=some (.tup l)):N5 (M' PG c.w) c.A (T2 (.ref a)) (jd c (l.map .d) τ s) bh s:=by
 obtain⟨ws,t1,t2⟩:=S.fY ht;refine wpAny_pyIter_tuple t1 (jd.of (n:="tuple_iterator") (f:=fun i => #[.ref a,.int i 0]) (by decide) ⟨rfl,rfl⟩ rfl fun cc i o Ow OT O3 Γ' s' hw hi l' S' hI => ?_)
 obtain⟨ws',t3,t4⟩:=S'.fY (l' _ _ ht);have W:=Walks.tuple (prog:=PG) (w:=c.w) (A:=c.A) hA s.heap.objs.size a (rT S' (l' _ _ ht)) ws';rw[show ws'.size=(l.map V.d).length by rw[Oe,t4.length,PH]] at W
 exact⟨_,_,_,_,W,fun b hb=>O7.mp hb,⟨⟨o,hI,hi⟩,t3⟩,fun h' st=>st.1,fun d v hd hP=>ui t4 hd hP⟩
theorem zN{l:List D}{a:Addr}(ht : ∃pin,τ a=some (.lst l pin)):N5 (M' PG c.w) c.A (T2 (.ref a)) (jd c (l.map .d) τ s) bh s:=by
 obtain⟨ws,t1,t2⟩:=S.eY ht;obtain⟨pin,ht⟩:=ht;refine wpAny_pyIter_list t1 (jd.of (n:="list_iterator") (f:=fun i => #[.ref a,.int i 0]) (by decide) ⟨rfl,rfl⟩ rfl fun cc i o Ow OT O3 Γ' s' hw hi l' S' hI => ?_)
 obtain⟨ws',t3,t4⟩:=S'.eY ⟨pin,l' _ _ ht⟩;have W:=Walks.list (prog:=PG) (w:=c.w) (A:=c.A) hA s.heap.objs.size a (rT S' (l' _ _ ht)) ws';rw[show ws'.size=(l.map V.d).length by rw[Oe,t4.length,PH]] at W
 exact⟨_,_,_,_,W,fun b hb=>O7.mp hb,⟨⟨o,hI,hi⟩,t3⟩,fun h' st=>st.1,fun d v hd hP=>ui t4 hd hP⟩
theorem yp{l:Tx}{t:XA}:N5 (M' PG c.w) c.A (T2 (.str (aP l) t)) (jd c (l.map fun c => .d (.str [c])) τ s) bh s:=by
 have hz:(aP l).cps.size=(l.map fun c=>V.d (.str [c])).length:=(Oe ..).symm
 cases ha:(aP l).cps.all (· < 128) with
 |true=>
  refine wpAny_pyIter_ascii ha (jd.of (n:="str_ascii_iterator") (f:=fun i => #[.str (aP l) t,.int i 0]) (by decide) ⟨rfl,rfl⟩ rfl fun cc i o Ow OT O3 Γ' s' hw hi l' S' hI => ?_)
  have W:=Walks.strAscii (prog:=PG) (w:=c.w) (A:=c.A) hA s.heap.objs.size (aP l) t;rw[hz] at W;exact⟨_,_,_,_,W,fun b hb=>O7.mp hb,⟨o,hI,hi⟩,fun h' st=>st,fun d v hd hP=>rL hd hP⟩
 |false=>
  refine wpAny_pyIter_wide ha (jd.of (n:="str_iterator") (f:=fun i => #[.str (aP l) t,.int i 0]) (by decide) ⟨rfl,rfl⟩ rfl fun cc i o Ow OT O3 Γ' s' hw hi l' S' hI => ?_)
  have W:=Walks.strWide (prog:=PG) (w:=c.w) (A:=c.A) hA s.heap.objs.size (aP l) t;rw[hz] at W;exact⟨_,_,_,_,W,fun b hb=>O7.mp hb,⟨o,hI,hi⟩,fun h' st=>st,fun d v hd hP=>rL hd hP⟩
theorem r6 {K J:Type} [DecidableEq J] {knd:KeyKind PG c.w J} {f:K->J} {g:K->D} {l:List (K×D)} {a:Addr} {p:Pt} {ep:Nat} (ht:τ a=some p) (hp : ∀o,p≠ .obj o)
  (hk : ∀{cc:Cx} {Ow OT O3 Γ'} {s':Shared},cc.w=c.w->SR cc Ow OT O3 Γ' s'->Ow a=some p->∃kvs,s'.heap.DictAt knd a kvs ep/\bD (VR Ow) f l kvs)
  (hv : ∀{τ θ k y},knd.is (f k) y=true->VV τ θ (.d (g k)) y):N5 (M' PG c.w) c.A (T2 (.ref a)) (jd c (l.map fun q => .d (g q.1)) τ s) bh s:=by
 obtain⟨kvs,t1,t2⟩:=hk rfl S ht;refine wpAny_pyIter_dict (S.rW ht hp) t1 (jd.of (n:="dict_keyiterator") (f:=fun i => #[.ref a,.int i 0,.int l.length 0,.int ep 0]) (by decide) ⟨rfl,by rw[t2.length];rfl⟩ rfl fun cc i o Ow OT O3 Γ' s' hw hi l' S' hI => ?_)
 obtain⟨kvs',t3,t4⟩:=hk (cc:=cc.hold _ o) hw S' (l' _ _ ht);have W:=Walks.dictKeys (knd:=knd) (prog:=PG) (w:=c.w) (A:=c.A) hA s.heap.objs.size a (rT S' (l' _ _ ht)) kvs' ep;have hz:kvs'.length=l.length:=t4.length.symm;have hz':kvs'.length=(l.map fun q=>V.d (g q.1)).length:=by rw[Oe,hz]
 rw[hz'] at W;refine⟨_,_,_,_,W,fun b hb=>O7.mp hb,⟨⟨o,hI,by rw[Oe];exact hi⟩,t3⟩,fun h' st=>by rw[Oe] at st;exact st.1,fun d v hd hP => ?_⟩
 obtain⟨k,y,h1,h2⟩:=hP;obtain⟨q,hq,rfl⟩:=aJ (Oc▸hd);exact hv ((bD.Hg t4 hq h1).symm▸h2)
end
theorem sG{a b k:Nat}:Sk (.ofNat a) (.ofNat b) (.ofNat (k+1))=(((b-a+k)/(k+1):Nat):Int):=by
 unfold Sk;rw[if_pos (by show(0:Int)<((k+1:Nat):Int);exact VY.mpr (P5 k))]
 by_cases hab:a<b
 ·rw[if_pos (show OO a<OO b from Qo.mpr hab),show b-a+k=(b-a-1)+(k+1) by rw[Ua k 1,<-WM,Sb (Vk hab)],Nat.add_div_right _ (P5 k)]
  show(((b:Nat):Int)-((a:Nat):Int)-1)/(((k+1:Nat)):Int)+1=_
  rw[show((b:Nat):Int)-((a:Nat):Int)-1=((b-a-1:Nat):Int) by rw[WR (Vk hab),WR (Oy hab)];rfl,<-Int.natCast_ediv];rfl
 ·rw[if_neg (show¬OO a<OO b from fun q=>hab (Qo.mp q)),show b-a+k=k by rw[RN (Pe hab),Ql],Nat.div_eq_of_lt (Qm k)];rfl
theorem iT{i:Nat}(h:i<=100000000):Pj (i:Int)=true:=by
 unfold Pj;simp only[OG,decide_eq_true_eq];exact⟨Sq (by decide) (O9 i),Rc (P8.mpr h) (by decide)⟩
theorem wL{a b k:Nat}(q1:a<=16777216)(q2:b<=16777216)(q3:k<=16777216):SK (.ofNat a) (.ofNat b) (.ofNat (k+1))=true:=by
 have hle:(b-a+k)/(k+1)<=b-a+k:=Nat.div_le_self _ _;unfold SK;rw[sG];change (Pj ((a:Nat):Int)&&Pj ((b:Nat):Int)&&Pj ((k+1:Nat):Int)&&Pj (((b-a+k)/(k+1):Nat):Int)&&(_||if (OO (k+1):Int)>0 then _ else _))=true
 rw[iT (i:=a) (bg ‹_›),iT (i:=b) (bg ‹_›),iT (i:=k+1) (ot ‹_›),iT (N0 hle (jx (Ti b a) q2 q3)),if_pos (show(OO (k+1):Int)>0 from VY.mpr (P5 k)),show(OO b+(OO (k+1)-1):Int)=((b+k:Nat):Int) by show((b:Nat):Int)+(((k+1:Nat):Int)-1)=_;lia,iT (bX q3 q2)];exact Bool.or_true _
theorem yr(hA:c.A.handled=none){τ:aF}{θ:aX}{s:Shared}{r:Addr}{a b k:Nat}(q1:a<=16777216)(q2:b<=16777216)(q3:k<=16777216)(S:SR c τ θ ρ Γ s)(ht:τ r=some (.eF (.ofNat a) (.ofNat b) (.ofNat (k+1)))):N5 (M' PG c.w) c.A (T2 (.ref r)) (jd c (cQ (.ofNat a) (.ofNat (k+1)) ((b-a+k)/(k+1))) τ s) bh s:=by
 obtain⟨σ,K,t,u,v,hr⟩:=S.mm ht;generalize hN:(b-a+k)/(k+1)=N;have hlen:(cQ (.ofNat a) (.ofNat (k+1)) N).length=N:=zm ..;refine wpAny_pyIter_range hr (wL q1 q2 q3) ⟨fun i o=>o={cls := .type "range_iterator",dict:=none,data := .fields #[Ta (.ofNat a+(i:Nat) * .ofNat (k+1)),Ta (((N:Nat):Int)-(i:Nat)),Ta (.ofNat (k+1))],slots := #[]},_,rfl,rfl,Pw _ rfl,by rw[sG,hN];simp,.of (fun i o hi=>⟨"range_iterator",by rw[hi],by decide⟩) fun cc i o Ow OT O3 Γ' s' hw hi l' S' hI => ?_⟩
 have W:=Walks.range (prog:=PG) (w:=c.w) hA s.heap.objs.size (.ofNat a) (.ofNat (k+1)) N;rw[<-hlen] at W hi;refine⟨_,_,_,_,W,fun b hb=>O7.mp hb,by rw[hi] at hI;exact hI,fun h' st=>⟨_,st,by rw[hlen]⟩,fun d v hd hP => ?_⟩
 obtain⟨t,rfl⟩:=hP;rw[zM _ _ _ hd];exact⟨t,rfl⟩
theorem DG{cc:Cx}{w:World}{l ep a}{τ θ s}(hw:cc.w=w)(S:SR cc τ θ ρ Γ s)(h:τ a=some (.bH l ep)): ∃kvs,s.heap.DictAt (PySem.strKind PG w) a kvs ep/\bD (VR τ) aP l kvs:=by
 obtain⟨_,_,kvs,t1,t2⟩:=S.mm h;exact⟨kvs,hw▸t1,t2⟩
theorem Dd{cc:Cx}{w:World}{l ep a}{τ θ s}(hw:cc.w=w)(S:SR cc τ θ ρ Γ s)(h:τ a=some (.gs l ep)): ∃kvs,s.heap.DictAt (PySem.intKind PG w) a kvs ep/\bD (VR τ) id l kvs:=by
 obtain⟨_,_,kvs,t1,t2⟩:=S.mm h;exact⟨kvs,hw▸t1,t2⟩
theorem ug{x:V}{u:Value}{vs:List V}{τ θ s}(hA:c.A.handled=none)(h:dm x=some vs)(S:SR c τ θ ρ Γ s)(hx:VV τ θ x u):N5 (M' PG c.w) c.A (T2 u) (jd c vs τ s) bh s:=by
 obtain⟨d,h1,e⟩:=ai h;obtain rfl:=V.cf h1;clear h h1;cases d with
 |tup l=>injection e with e;subst e;obtain⟨a,rfl,ht⟩:=hx;exact yK hA S ht
 |lst l=>injection e with e;subst e;obtain⟨a,rfl,ht⟩:=hx;exact zN hA S ht
 |str l=>injection e with e;subst e;obtain⟨t,rfl⟩:=hx;exact yp hA S
 |bH l=>injection e with e;subst e;obtain⟨a,rfl,ep,ht⟩:=hx;exact r6 (knd:=PySem.strKind PG c.w) (f:=aP) (g := .str) hA S ht (fun _=>nofun) DG Value.isStrOf_shape
 |gs l=>injection e with e;subst e;obtain⟨a,rfl,ep,ht⟩:=hx;exact r6 (knd:=PySem.intKind PG c.w) (f:=id) (g := .int) hA S ht (fun _=>nofun) Dd Value.isInt_shape
 |eF a b cc=>
  obtain⟨a,h1,e⟩:=ai e;obtain rfl:=gr h1;obtain⟨b,h2,e⟩:=ai e;obtain rfl:=gr h2;obtain⟨k,h3,e⟩:=ai e;obtain rfl:=gN h3;obtain⟨q,rfl⟩:=bF e;obtain⟨q,q3⟩:=Ol.mp q;obtain⟨q1,q2⟩:=Ol.mp q;obtain⟨r,rfl,ht⟩:=hx;exact yr hA (N9 q1) (N9 q2) (N9 q3) S ht
 |_=>exact aE e
end
section
theorem p8{vs:List V}{i:Nat}{d:V}(h:vs[i]?=some d):vs.drop i=d::vs.drop (i+1):=by
 obtain⟨hi,e⟩:=N3.mp h;rw[List.drop_eq_getElem_cons hi,e]
theorem qD(e:Ex)(T:Tab)(ns:List Str)(env:R0)(x:Value):foldedSetIterable (e.back T ns) env x=pure x:=by
 cases e<;>rfl
inductive FI(c:Cx)(fb:V->aq->ag->Res Fl)(vs:List V)(I:Addr)(IO:Nat->Obj->Prop)(r:Res Fl)(τ:aF)(θ:aX)(Oo:aF)(n:Nat)(s':Shared):Prop
 |mk (i:Nat) (o:Obj) (Ow:aF) (OT:aX) (O3:aq) (Γ':ag) (l:Lq τ θ Ow OT) (le:Le Oo Ow) (hio:IO i o) (S:SR (c.hold I o) Ow OT O3 Γ' s') (e:bO fb (vs.drop i) O3 Γ'=r) (hn:n+i=vs.length)
def El(n:Nat)(J:Nat->Shared->Prop)(Q:W8->Shared->Prop):W8->Shared->Prop:=fun f PY=>match f with
 | .next | .cont => ∃m,m<n/\J m PY
 | .brk=>Q .next PY
 | .ret v=>Q (.ret v) PY
def uW(c:Cx)(X:Value->Shared->Prop):Value->Shared->Prop:=notedBy (M' PG c.w) c.A c.env (Sy (M' PG c.w) c.A c.env X)
def JR(c:Cx)(t:PySem.Expr)(b:List Stmt)(I:Addr)(n:Nat)(J:Nat->Shared->Prop)(Q:W8->Shared->Prop)(X:Value->Shared->Prop):Option Value->Shared->Prop:=fun x OU=>match x with
 |none=>N5 (M' PG c.w) c.A (X7 [] c.env) Q X OU
 |some v=>N5 (M' PG c.w) c.A (Q6 t (.ref I) v) (fun _ s'=>N5 (M' PG c.w) c.A (Ro t c.env v) (fun _ Pn=>N5 (M' PG c.w) c.A (X7 b c.env) (El n J Q) X Pn) X s') X OU
noncomputable def ka(O:aL)(T:Tab)(t:Ex)(b:av):V->aq->ag->Res Fl:=fun v ρ Γ=>(t.bC O .free T v ρ Γ).bind fun _ ρ Γ=>b.ex T O .free ρ Γ
section
variable{τ Oo:aF}{θ:aX}{t:Ex}{b:av}{vs:List V}{I:Addr}{IO:Nat->Obj->Prop}{r:Res Fl}{L:Addr}{n i:Nat}
theorem fj{n i m:Nat}(h:n+i=m)(hi:i<m):n-1<n/\n-1+(i+1)=m:=by
 cases n with
 |zero=>exact absurd ((Ql i).symm.trans h) (PK hi)
 |succ n=>exact⟨Qm n,(O2 n i).symm.trans h⟩
theorem Bb{Ow OT s}{fl:Fl}{f:W8}{o:Obj}(SW:c.WF)(hI:c.held I=none)(hni:n+i=vs.length)(hd:i<vs.length)(l:Lq τ θ Ow OT)(le:Le Oo Ow)(hio:IO (i+1) o)(S:SR (c.hold I o) Ow OT ρ Γ s)(rf:RF Ow OT fl f)(e:r=fl.loop ρ Γ (bO (ka O T t b) (vs.drop (i+1)) ρ Γ)):El n (FI c (ka O T t b) vs I IO r τ θ Oo) (QP c τ θ RF r.Q) f s:=by
 cases fl with
 |next=>subst rf;exact⟨n-1,(fj hni hd).1,i+1,o,Ow,OT,ρ,Γ,l,le,hio,S,e.symm,(fj hni hd).2⟩
 |cont=>subst rf;exact⟨n-1,(fj hni hd).1,i+1,o,Ow,OT,ρ,Γ,l,le,hio,S,e.symm,(fj hni hd).2⟩
 |brk=>subst rf;exact .fin l (R:=RF) (b:=Fl.next) rfl (e6 SW hI S s.toks fun _ _ _ e=>e) e
 |ret d=>obtain⟨u,rfl,rf⟩:=rf;exact .fin l (R:=RF) (b:=Fl.ret d) ⟨u,rfl,rf⟩ (e6 SW hI S s.toks fun _ _ _ e=>e) e
variable(ht : ∀I o,SA (c.hold I o) T O .free t)(hb : ∀I o,ie (c.hold I o) T O .free b)(hL:c.env.frame=some L)(SW:c.WF)(hI:c.held I=none)(hr:r≠ .no)(hni:n+i=vs.length)
include ht hb hL SW hI hr hni
theorem zI{Rg RH s}{d:V}{v:Value}{o:Obj}(hd:vs[i]?=some d)(hio:IO (i+1) o)(S:SR (c.hold I o) Rg RH ρ Γ s)(rv:VV Rg RH d v)(l:Lq τ θ Rg RH)(le:Le Oo Rg)(e:bO (ka O T t b) (vs.drop i) ρ Γ=r):
  N5 (M' PG c.w) c.A (Ro (t.back T c.ns) c.env v) (fun _ Pn=>N5 (M' PG c.w) c.A (X7 (b.back T c.ns) c.env) (El n (FI c (ka O T t b) vs I IO r τ θ Oo) (QP c τ θ RF r.Q)) (uW c (XP c τ θ r.X)) Pn) (uW c (XP c τ θ r.X)) s:=by
 have e':=e.symm.trans ((congrArg (fun l=>bO (ka O T t b) l ρ Γ) (p8 hd)).trans (bind_assoc ..))
 have pass : ∀e s',XP (c.hold I o) τ θ r.X e s'->uW c (XP c τ θ r.X) e s':=fun e s' x=>mz hL e s' (xd SW hI x)
 exact rJ ((ht I o).go (fun q=>hr (e'.trans q)) S rv l (fun Ue V3 V4 V5 V6 Ug Ve SH Wt TQ=>rJ ((hb I o V5 V6).go Wt SH Ug (fun f Tu TR TS fl Un Uo Ym Yn Yo Uh Xi Wu=>
  Bb SW hI hni (N3.mp hd).1 Ym (le.trans (Ve.trans Yn).l) hio Uh Yo Wu) TQ) pass) e') pass
end
theorem zc {τ Oo:aF} {θ:aX} {t:Ex} {b:av} {vs:List V} {I:Addr} {IO:Nat->Obj->Prop} {r:Res Fl} {L:Addr} {n:Nat} {s:Shared} (ht : ∀I o,SA (c.hold I o) T O .free t) (hb : ∀I o,ie (c.hold I o) T O .free b) (hL:c.env.frame=some L) (SW:c.WF) (hI:c.held I=none) (W:xq c vs I IO Oo) (hr:r≠ .no)
  (h:FI c (ka O T t b) vs I IO r τ θ Oo n s):N5 (M' PG c.w) c.A (Wc (.ref I)) (JR c (t.back T c.ns) (b.back T c.ns) I n (FI c (ka O T t b) vs I IO r τ θ Oo) (QP c τ θ RF r.Q) (uW c (XP c τ θ r.X))) bh s:=by
 obtain⟨i,o,Rg,RH,SG,QY,RO,Vf,hio,QQ,Qt,hni⟩:=h;obtain⟨_,step,fin,_⟩:=W c i o Rg RH SG QY s rfl hio Vf QQ;cases hd:vs[i]? with
 |none=>
  have hl:=Tp.mp hd;refine Ob (fin hd (RK (hni▸Qa ..) hl)) (fun rr Sg H => ?_) fun _ _ x=>x
  obtain⟨h',tk,rfl,rfl,ext⟩:=H;exact Q5 (.fin RO (R:=RF) (b:=Fl.next) rfl (e6 SW hI QQ tk ext) (by rw[<-Qt,Pr hl];rfl))
 |some d=>
  refine Ob (step d hd) (fun rr Sg H => ?_) fun _ _ x=>x
  obtain⟨v,o',h',tk,rfl,rv,hio',rfl,ho',ext⟩:=H;have Sh:=m9 SW hI QQ tk ext ho';obtain⟨⟨Tn',hc',hT'⟩,_⟩:=W c (i+1) o' Rg RH SG QY _ rfl hio' Vf Sh;exact xF ho' hc' hT' (zI ht hb hL SW hI hr hni hd hio' Sh rv RO Vf Qt)
theorem yV{τ Oo:aF}{θ OC:aX}{t:Ex}{b:av}{vs:List V}{r:Res Fl}{L:Addr}{OU Pn:Shared}{it:Value}(ht : ∀I o,SA (c.hold I o) T O .free t)(hb : ∀I o,ie (c.hold I o) T O .free b)(hL:c.env.frame=some L)(hr:r≠ .no)(e:r=bO (ka O T t b) vs ρ Γ)(l:Lq τ θ Oo OC)(S:SR c Oo OC ρ Γ OU)(h:jd c vs Oo OU it Pn):
  SP (M' PG c.w) c.A (.forLoop (t.back T c.ns) it (b.back T c.ns) [] c.env) (fun r' s'=>match r' with | .ok f=>QP c τ θ RF r.Q f s' | .error e=>Sy (M' PG c.w) c.A c.env (XP c τ θ r.X) e s') Pn:=by
 obtain⟨IO,SX,hI,Xj,Up,Tv,W⟩:=h;subst hI Xj;obtain⟨σ,K⟩:=S.own;have fresh:=K.fresh (dP OU.heap);have Yp:=K.keeps fun b o e=>cA SX b o e
 exact codeAny_forLoop_any (FI c (ka O T t b) vs _ IO r τ θ Oo) (fun n s h=>fA (zc ht hb hL S.wf (ir K fresh) W hr h)) vs.length
  ⟨0,SX,Oo,OC,ρ,Γ,l,.refl _,Tv,jI (S.heap OU.toks fun σ K=>K.keeps fun b o e=>cA _ b o e) Yp fresh Up,e.symm,rfl⟩
theorem G1{t it b p L}(hi:SE c T O m it)(ht:c.A.handled=none->∀I o,SA (c.hold I o) T O .free t)(hb:c.A.handled=none->∀I o,ie (c.hold I o) T O .free b)(hL:c.env.frame=some L)(hm:m.b=true->c.A.handled=none):SS c T O m (.kz t it b p):=fun ρ Γ => .of fun τ θ s hn S=>
 wpAny_For ((hi ρ Γ).go hn S (.refl _ _) fun u OU Oo OC x Od Oj Oz _ OL Ot n₁ OA=>bt n₁ OA fun vs q n₁ OA=>eE n₁ OA fun hb' n₁ OA=>
  fA (Ob (ug (hm hb') q Ot OL) (fun itv Pn h=>yV (ht (hm hb')) (hb (hm hb')) hL hn OA Oz Ot h) fun _ _ x=>x)) (fun x=>qD it T c.ns c.env x)
end
section
abbrev ow(c:Cx)(T:Tab)(O:aL)(m:Md)(es:bf):Prop := ∀ρ Γ pos,Sd c RV (Q7 (.BoolOp .And (es.back T c.ns) pos) c.env) (es.bL O m T ρ Γ) ρ Γ
abbrev oF(c:Cx)(T:Tab)(O:aL)(m:Md)(es:bf):Prop := ∀ρ Γ pos,Sd c RV (Q7 (.BoolOp .Or (es.back T c.ns) pos) c.env) (es.gD O m T ρ Γ) ρ Γ
theorem Ec:ow c T O m .nil:=fun ρ Γ pos hn=>absurd rfl hn
theorem DQ:oF c T O m .nil:=fun ρ Γ pos hn=>absurd rfl hn
theorem r8{v:V}{u:Value}{b:Bool}{τ θ s}{P:Bool->Shared->Prop}{E:Value->Shared->Prop}(q:d9 Γ v=some b)(S:SR c τ θ ρ Γ s)(r:VV τ θ v u)(k : ∀s',SR c τ θ ρ Γ s'->P b s'):N5 (M' PG c.w) c.A (X4 u) P E s:=
 fA (Ob (rn q S r) (fun x s' h=>h.1▸k s' h.2) fun _ _ x=>x)
theorem B4{e es}(h1:SE c T O m e)(h2:ow c T O m es):ow c T O m (.cons e es):=fun ρ Γ pos => .of fun τ θ s hn S=>by
 cases es with
 |nil=>exact BoolOp_one ((h1 ρ Γ).run hn S)
 |cons e' es'=>
  exact BoolOp_and ((h1 ρ Γ).go hn S (.refl _ _) fun u OU Oo OC d Od Oj Oz _ OL Ot n₁ OA=>bt n₁ OA fun b q Px O6=>r8 q Ot OL fun s' S'=>by
   cases b with
   |true=>exact(h2 Od Oj pos).last Px S' Oz O6
   |false=>exact .fin Oz (R:=RV) OL S' O6)
theorem Bq{e es}(h1:SE c T O m e)(h2:oF c T O m es):oF c T O m (.cons e es):=fun ρ Γ pos => .of fun τ θ s hn S=>by
 cases es with
 |nil=>exact BoolOp_one ((h1 ρ Γ).run hn S)
 |cons e' es'=>
  exact BoolOp_or ((h1 ρ Γ).go hn S (.refl _ _) fun u OU Oo OC d Od Oj Oz _ OL Ot n₁ OA=>bt n₁ OA fun b q Px O6=>r8 q Ot OL fun s' S'=>by
   cases b with
   |true=>exact .fin Oz (R:=RV) OL S' O6
   |false=>exact(h2 Od Oj pos).last Px S' Oz O6)
theorem Hr{es p}(h:ow c T O m es):SE c T O m (.ny es p):=fun ρ Γ=>h ρ Γ _
theorem Kp{es p}(h:oF c T O m es):SE c T O m (.tY es p):=fun ρ Γ=>h ρ Γ _
theorem tX{τ θ s s'}{r:Res V}{m:Mu}(S:SR c τ θ ρ Γ s)(S':SR c τ (θ++[s.heap.objs.size]) ρ (Γ++[some m]) s')(e:r = .ok (.loc Γ.length) ρ (Γ++[some m])):QP c τ θ RV r.Q (.ref s.heap.objs.size) s':=
 .fin (.mk (.refl _) (.app _ _)) (R:=RV) (b := .loc Γ.length) ⟨_,rfl,by rw[<-S.th,Ov (Ox _),P6];rfl⟩ S' e
theorem DE{p}:SE c T O m (.nz p):=fun ρ Γ => .of fun τ θ s hn S=>
 List_ (spliced_none (Us (tX S (S.rV (m := .list []) s.toks fun σ=>⟨#[],⟨_,_,Pw _ rfl,rfl,rfl,rfl⟩,trivial⟩) rfl) (RW _)))
theorem gI{prog w}{K:Type} [DecidableEq K]{knd:KeyKind prog w K}(h:Po):(h.push {cls := .type "dict",data := .dict #[]}).DictOf knd h.objs.size []:=⟨_,#[],0,Pw _ rfl,⟨rfl,rfl,rfl⟩,rfl,by intro e he;simp at he,.nil,by simp⟩
theorem DF{k p}:SE c T O m (.sE k p):=fun ρ Γ => .of fun τ θ s hn S=>
 wpAny_Dict_empty (tX S (S.rV (m:=Fy k) s.toks fun σ=>by
  match k with
  |0=>exact⟨[],gI _,trivial⟩
  |1=>exact⟨[],gI _,trivial⟩
  |_+2=>exact⟨[],gI _,trivial⟩) rfl)
theorem OK.Yq{σ τ θ h}{O3:aq}(K:OK c σ τ θ ρ Γ h)(TO : ∀(i:Nat) v',O3[i]?=some (some v')->∃v,ρ[i]?=some (some v)/\∀mv x u,h.Ns c.env.locals mv->c.ns[i]?=some x->((c.env.kindOf x=some .local->mv x=some u->VV τ θ v u->VV τ θ v' u)/\(c.env.kindOf x≠some .local->∀a,c.env.cells.lookup x=some a->h.IsCell a (some u)->VV τ θ v u->VV τ θ v' u))):OK c σ τ θ O3 Γ h:=
 ⟨K.at_,K.bp,K.fr,fun mv hm i x v' hx hv hk=>by
  obtain⟨v,h1,h2⟩:=TO i v' hv;obtain⟨u,h3,h4⟩:=K.loc mv hm i x v hx h1 hk;exact⟨u,h3,(h2 mv x u hm hx).1 hk h3 h4⟩,fun i x hx hk=>by
  obtain⟨a,h1,h2,h3⟩:=K.cell i x hx hk;refine⟨a,h1,h2,fun v' hv => ?_⟩
  obtain⟨v,h4,h5⟩:=TO i v' hv;obtain⟨u,h6,h7⟩:=h3 v h4;obtain⟨mv,hm⟩:=K.at_ _ _ K.fr;exact⟨u,h6,(h5 mv x u hm hx).2 hk a h1 h6 h7⟩,K.held,K.len,K.inj,K.eo,K.d6⟩
theorem Cq{σ τ θ h a p}{m:Mu}(K:OK c σ τ θ ρ Γ h)(ha:σ a=some (.mu m)):Le τ (cV τ a p):=fun b q e=>
 (if_neg fun(h:b=a)=>by rw[h] at e;rw[(K.bp _ _).mp e] at ha;exact Own.noConfusion (j' ha)).trans e
theorem lb{n i:Nat}{m:Mu}(e:(Γ.set n none)[i]?=some (some m)):Γ[i]?=some (some m)/\i≠n:=by
 have hi:i≠n:=fun h=>by
  rw[h,Qz,if_pos rfl] at e;by_cases hl:n<Γ.length
  ·rw[if_pos hl] at e;exact aE (j' e)
  ·rw[if_neg hl] at e;exact aE e
 exact⟨(OP (PF hi)).symm.trans e,hi⟩
theorem freeze{τ θ s}{n:Nat}{a:Addr}{TN:Mu}{p:Pt}(S:SR c τ θ ρ Γ s)(Pa:θ[n]?=some a)(hg:bq Γ n=some TN)(hm : ∀σ,At σ τ θ c.w s.heap a (.mu TN)->∀σ' Ow,Le τ Ow->At σ' Ow θ c.w s.heap a (.bp p)):
  SR c (cV τ a p) θ ρ (Γ.set n none) s/\Le τ (cV τ a p):=by
 obtain⟨σ,K,ha,hat⟩:=S.c4 Pa hg;obtain⟨K',l⟩:=K.kG S.wf (p:=p) (Γ':=Γ.set n none) (.inr ⟨_,ha⟩) (fun _ _ e=>e) PS (fun i m e=>⟨(lb e).1,fun f=>(lb e).2 (K.inj _ _ _ f Pa)⟩) (hm σ hat _ _ (Cq K ha))
 exact⟨⟨S.wf,S.rl,⟨_,K'⟩,fun b o e=>l _ _ (S.base b o e),S.gens,S.os⟩,l⟩
theorem js{τ:aF}{a:Addr}{p:Pt}:cV τ a p a=some p:=if_pos rfl
theorem Df{v:V}{u:Value}{q:D×ag}{τ θ s}(h:Mine.jL Γ v=some q)(S:SR c τ θ ρ Γ s)(hv:VV τ θ v u): ∃Ow,Le τ Ow/\VR Ow q.1 u/\SR c Ow θ ρ q.2 s:=by
 cases v with
 |d x=>injection h with h;subst h;exact⟨τ,.refl _,hv,S⟩
 |loc n=>
  obtain⟨m,hg,h⟩:=ai h;obtain⟨d,hm,rfl⟩:=aJ h;obtain⟨a,rfl,Pa⟩:=hv;cases m with
  |list l=>
   injection hm with hm;subst hm
   obtain⟨S',l'⟩:=freeze (p := .lst l none) S Pa hg fun σ hz σ' Ow le=>by obtain⟨vs,h1,h2⟩:=hz;exact⟨⟨vs,h1.isList,h2.mono le⟩,fun x e=>aE e⟩
   exact⟨_,l',⟨a,rfl,none,js⟩,S'⟩
  |sd l=>
   injection hm with hm;subst hm
   obtain⟨σ,K,ha,kvs,d1,d2⟩:=S.c4 Pa hg;obtain⟨ep,d3⟩:=d1.dictAt;obtain⟨S',l'⟩:=freeze (p := .bH l ep) S Pa hg fun σ _ σ' Ow le=>⟨kvs,d3,d2.mono fun e v h=>h.mono le⟩
   exact⟨_,l',⟨a,rfl,ep,js⟩,S'⟩
  |nd l=>
   injection hm with hm;subst hm
   obtain⟨σ,K,ha,kvs,d1,d2⟩:=S.c4 Pa hg;obtain⟨ep,d3⟩:=d1.dictAt;obtain⟨S',l'⟩:=freeze (p := .gs l ep) S Pa hg fun σ _ σ' Ow le=>⟨kvs,d3,d2.mono fun e v h=>h.mono le⟩
   exact⟨_,l',⟨a,rfl,ep,js⟩,S'⟩
  |_=>exact aE hm
theorem yB{h:Po}{a:Addr}{x y:Option Value}(p:h.IsCell a x)(q:h.IsCell a y):x=y:=by
 obtain⟨o,h1,h2⟩:=p;obtain⟨o',h3,h4⟩:=q;injection h1.symm.trans h3 with h3;subst h3
 rw[h2] at h4;cases x<;>cases y<;>simp_all
structure vH(c:Cx)(h:Po)(x:Str)(u:Value):Prop where
 loc : ∀mv,h.Ns c.env.locals mv->c.env.kindOf x=some .local->mv x=some u
 cell:c.env.kindOf x≠some .local->∃a,c.env.cells.lookup x=some a/\h.IsCell a (some u)
theorem SR.He{τ θ s}{i:Nat}{v:V}{x:Str}(S:SR c τ θ ρ Γ s)(hx:c.ns[i]?=some x)(hv:ρ[i]?=some (some v)): ∃u,VV τ θ v u/\vH c s.heap x u:=by
 obtain⟨σ,K⟩:=S.own;obtain⟨mv,hm⟩:=K.at_ _ _ K.fr;by_cases hl:c.env.kindOf x=some .local
 ·obtain⟨u,h1,h2⟩:=K.loc mv hm i x v hx hv hl
  exact⟨u,h2,fun mv' hm' _=>fq hm hm'▸h1,fun h=>absurd hl h⟩
 ·obtain⟨a,h1,h2,h3⟩:=K.cell i x hx hl
  obtain⟨u,h4,h5⟩:=h3 v hv;exact⟨u,h5,fun _ _ h=>absurd h hl,fun _=>⟨a,h1,h4⟩⟩
theorem SR.rename{τ θ s}{i:Nat}{v v':V}{x:Str}{u:Value}(S:SR c τ θ ρ Γ s)(hx:c.ns[i]?=some x)(hv:ρ[i]?=some (some v))(H:vH c s.heap x u)(r:VV τ θ v' u):SR c τ θ (ρ.set i (some v')) Γ s:=by
 obtain⟨σ,K⟩:=S.own;refine⟨S.wf,by rw[PS];exact S.rl,⟨σ,K.Yq fun j w hj => ?_⟩,S.base,S.gens,S.os⟩
 by_cases hji:j=i
 ·rw[hji,Qy (N3.mp hv).1] at hj
  cases hj;refine⟨v,hji▸hv,fun mv y w hm hy => ?_⟩
  rw[hji,hx] at hy;injection hy with hy;subst hy
  refine⟨fun hl e _ => ?_,fun hl a ha hc _ => ?_⟩
  ·rw[H.loc mv hm hl] at e;exact j' e▸r
  ·obtain⟨a',e1,e2⟩:=H.cell hl
   rw[ha] at e1;rw[<-j' e1] at e2;exact j' (yB e2 hc)▸r
 ·rw[OP (PF hji)] at hj
  exact⟨w,hj,fun _ _ _ _ _=>⟨fun _ _ h=>h,fun _ _ _ _ h=>h⟩⟩
theorem vH.load{τ θ s}{x:Str}{u:Value}{P:Value->Shared->Prop}{E:Value->Shared->Prop}(H:vH c s.heap x u)(S:SR c τ θ ρ Γ s)(hm:x∈c.ns)(hP:P u s):N5 (M' PG c.w) c.A (loadName c.env x) P E s:=by
 obtain⟨σ,K⟩:=S.own;by_cases hl:c.env.kindOf x=some .local
 ·obtain⟨mv,hmv⟩:=K.at_ _ _ K.fr
  exact Vo S.wf.kind hl hmv (H.loc mv hmv hl) hP
 ·obtain⟨a,e1,e2⟩:=H.cell hl
  rcases S.wf.vars _ hm with hk | hk | hk
  ·exact absurd hk hl
  ·exact VO S.wf.kind hk e1 e2 hP
  ·exact VN S.wf.kind hk e1 e2 hP (S.wf.cX _ _ hk)
theorem HP{i p}:SE c T O m (.jL i p):=fun ρ Γ => .of fun τ θ s hn S=>bt hn rfl fun v hv n e=>bt n e fun q hq _ e=>by
 have hv:=jk hv;obtain⟨x,hx⟩:=vW S hv;obtain⟨k,hk⟩:=tR S.wf hx;obtain⟨u,h1,H⟩:=S.He hx hv;obtain⟨Ow,l',r',S'⟩:=Df hq S h1;exact gb (congrArg (fun y=>Q7 (.Name y (aK p)) c.env) (iS hx)) (wpAny_Name (H.load S (Og hx) (.fin (.mk l' (.refl _)) (R:=RV) (b := .d q.1) r' (S'.rename hx hv H (v' := .d q.1) r') e)) (S.wf.eL _ _ hk))
end
section
theorem y9{M:UK}{A:Around}{E:Value->Shared->Prop}{s:Shared}{f:Value}{args:List (Bool×Su Value)}{Q:Args->Shared->Prop}(hall:args.all (fun p => !p.1)=true)(h:N5 M A (Wz args) (fun vs s'=>Q ⟨vs,[]⟩ s') E s):N5 M A (evalArgs f true args []) Q E s:=by
 cases args with
 |nil=>
  unfold evalArgs;show N5 M A (Wz []>>=_) Q E s
  refine u' (Ob h (fun vs s' h' => ?_) fun _ _ x=>x)
  refine u' (J' ?_)
  refine wpAny_holding ?_
  exact u' (J' (u' (J' (J' h'))))
 |cons p rest=>
  obtain⟨b,x⟩:=p;simp only[Rl,OG] at hall;have:b=false:=by simpa using hall.1
  subst this;exact evalArgs_plain h
theorem kA {M:UK} {A:Around} {E:Value->Shared->Prop} {s:Shared} {pos:W7} {f:Value} {first:List Value} {args:List (Bool×Su Value)} {P:Po->Prop} {Q:Value->Shared->Prop} (hall:args.all (fun p => !p.1)=true)
  (hk : ∀h,P h->∃k,(k=R5\/k=RJ\/k=Q9)/\P2 M h (Vr f) k) (h:N5 M A (Wz args) (fun vs OU=>P OU.heap/\N5 M A (call f (first++vs)) Q E OU) E s):N5 M A (callWith pos f first args []) Q E s:=by
 refine callWith_of ?_ hk (y9 hall h)
 have:args.any (·.1)=false:=by
  rw[Va];intro p hp;have:=OV.mp hall p hp;simpa using this
 rw[this];rfl
theorem fC{pos:W7}{l:List (Bool×Su Value)}(h:l.all (fun p => !p.1)=true):(Wf pos l).all (fun p => !p.1)=true:=by
 induction l with
 |nil=>rfl
 |cons p r ih=>
  simp only[Rl,OG] at h;simp only[Wf,Oa,Rl,OG] at ih ⊢;exact⟨h.1,ih h.2⟩
def gJ(w:World)(T:Tab):Prop := ∀k,k<T.fa.length->∃o fd,o.data = .func fd/\∀h,(KK w.params).In h->h.get? (T.fa.getD k 0)=some o
theorem k9{w:World}{M:UK}(hF:gJ w T){k:Nat}(hk:k<T.fa.length)(h:Po)(X:(KK w.params).In h): ∃kk,(kk=R5\/kk=RJ\/kk=Q9)/\P2 M h (Vr (.ref (T.fa.getD k 0))) kk:=by
 obtain⟨o,fd,hd,ho⟩:=hF k hk;refine⟨.frame,.inl rfl,?_⟩
 refine(T6 (part:=none) (ho h X)).andThen ?_
 rw[hd];exact .now
theorem V.gS{v:V}{a:Addr}(h:v.fu=some a):v = .d (.val (.ref a)):=by
 obtain⟨x,h1,h2⟩:=ai h;obtain⟨d,rfl,h3⟩:=V.of_eq h1;rw[D.mF h3];cases x with
 |ref b=>exact congrArg (fun a=>V.d (.val (.ref a))) (j' h2)
 |_=>exact aE h2
theorem xA{k:Nat}{q:Bool}{n:Nat}{vs:List V}{us:List Value}{τ OJ θ OQ s}{r0:Res V}(hO:eA c.w T.fa O n)(hl:c.lv<=n)(hm:m.b=true->c.A.handled=none)(hn:(d4 O m k q vs Γ).res ρ≠ .no)(S:SR c τ θ ρ Γ s)(r:bT τ θ vs us)(l:Lq OJ OQ τ θ)(e:r0=(d4 O m k q vs Γ).res ρ):
  N5 (M' PG c.w) c.A (call (.ref (T.fa.getD k 0)) us []) (QP c OJ OQ RV r0.Q) (XP c OJ OQ r0.X) s:=by
 cases q with
 |false=>exact lJ (hO.wp rfl hl m.b k vs ρ Γ hm (RG.kT hn) τ θ s us S r) l e
 |true=>
  have hn':=RG.kT hn;cases had:iB vs with
  |false=>exact absurd (congrArg (cond · (eV Γ (O m.b k vs [])) .no) had) hn'
  |true=>
   have e':d4 O m k true vs Γ=eV Γ (O m.b k vs []):=congrArg (cond · (eV Γ (O m.b k vs [])) .no) had;exact lJ (xH hO rfl hl hm had (e'▸hn') S r) l (e.trans (congrArg (RG.res ρ) e'))
theorem tw{k:Nat}{d:V}{u:Value}{τ θ}{M:UK}{h:Po}(hF:gJ c.w T)(r:VV τ θ d u)(hp:(KK c.w.params).In h/\d = .d (.val (.ref (T.fa.getD k 0)))/\k<T.fa.length): ∃kk,(kk=R5\/kk=RJ\/kk=Q9)/\P2 M h (Vr u) kk:=by
 obtain⟨X,rfl,hk⟩:=hp;rw[show u=_ from r]
 exact k9 hF hk h X
theorem Ee{f:Ex}{k q es p}{n:Nat}(hf : ∃x p',f.back T c.ns = .Name x p')(h1:SE c T O m f)(h2:i7 c T O m es)(hO:eA c.w T.fa O n)(hl:c.lv<=n)(hF:gJ c.w T)(hm:m.b=true->c.A.handled=none):SE c T O m (.call k f q es p):=fun ρ Γ => .of fun τ θ s hn S=>
 Call_ ((h1 ρ Γ).go hn S (.refl _ _) fun u OU Oo OC d Od Oj Oz _ OL Ot n₁ OA=>
  kA (P:=fun h=>(KK c.w.params).In h/\d = .d (.val (.ref (T.fa.getD k 0)))/\k<T.fa.length) (fC (h2 Od Oj (aK p)).1) (fun h hp=>tw hF OL hp) ((h2 Od Oj _).2.go n₁ Ot Oz (fun us Pn Pu O5 vs PJ PA PI m₂ PX OW Px O6=>bt Px O6 fun a ha RI Qt=>eE RI Qt fun qa Tt Si=>by
   obtain⟨q1,q2⟩:=Ol.mp qa;have hd:=N2 q2▸V.gS ha;rw[hd] at OL;exact⟨⟨OW.K,hd,cp q1⟩,(show u=_ from OL)▸xA hO hl hm Tt OW PX PI Si⟩) OA)) (by obtain⟨x,p',ef⟩:=hf;rw[ef];rfl)
noncomputable def Bi.val:Bi->Value
 | .len => .builtin "len" | .ord => .builtin "ord" | .chr => .builtin "chr" | .range => .type "range" | .isinst => .builtin "isinstance" | .any => .builtin "any" | .str => .type "str"
theorem wU{M:UK}(b:Bi)(h:Po): ∃kk,(kk=R5\/kk=RJ\/kk=Q9)/\P2 M h (Vr b.val) kk:=by
 refine⟨.machine,.inr (.inl rfl),Rf ?_⟩
 cases b<;>rfl
theorem fB{τ θ}{v:V}{us:List Value}(h:bT τ θ [v] us): ∃u,us=[u]/\VV τ θ v u:=by
 obtain⟨u,r,rfl,h1,h2⟩:=h.dN;cases h2.gh;exact⟨u,rfl,h1⟩
theorem i6{τ θ}{v w:V}{us:List Value}(h:bT τ θ [v,w] us): ∃u x,us=[u,x]/\VV τ θ v u/\VV τ θ w x:=by
 obtain⟨u,r,rfl,h1,h2⟩:=h.dN;obtain⟨x,rfl,h3⟩:=fB h2;exact⟨u,x,rfl,h1,h3⟩
theorem uU{τ θ}{v w z:V}{us:List Value}(h:bT τ θ [v,w,z] us): ∃u x y,us=[u,x,y]/\VV τ θ v u/\VV τ θ w x/\VV τ θ z y:=by
 obtain⟨u,r,rfl,h1,h2⟩:=h.dN;obtain⟨x,y,rfl,h3,h4⟩:=i6 h2;exact⟨u,x,y,rfl,h1,h3,h4⟩
theorem mw{n:Nat}(h:ay n=true):(n:Int)<2^63:=by
 have:n<=16777216:=N9 h;exact Rc (P8.mpr this) (by decide)
theorem wC{τ θ s}{a b cc:Int}{t u v:XA}(S:SR c τ θ ρ Γ s)(tk:Nat):DP c τ θ ρ Γ (.eF a b cc) (.ref s.heap.objs.size) {s with heap:=s.heap.push {cls := .type "range",data := .fields #[.int a t,.int b u,.int cc v]},toks:=tk}:=by
 obtain⟨S',l'⟩:=S.kG (p := .eF a b cc) tk fun σ Ow le=>⟨t,u,v,IsRange.new ..⟩
 exact⟨_,l',⟨_,rfl,by simp[cV]⟩,S'⟩
noncomputable def D.bool?:D->Option Bool
 | .bool b=>some b
 |_=>Oi
theorem D.zH{v:D}{x}(h:v.bool?=some x):v = .bool x:=by
 cases v with
 |bool y=>exact congrArg D.bool (j' h)
 |_=>exact aE h
theorem rY{d:D}{l:List D}{bs:List Bool}(h:boolsOf (d::l)=some bs): ∃b r,d = .bool b/\boolsOf l=some r/\bs=b::r:=by
 cases d with
 |bool b=>
  obtain⟨r,h1,h2⟩:=aJ h;exact⟨b,r,rfl,h1,h2.symm⟩
 |_=>exact aE h
theorem tj{l:List D}{τ}: ∀{bs:List Bool} {us:List Value},boolsOf l=some bs->bz τ l us->LSm.BoolsAre us bs:=by
 induction l with
 |nil=>intro bs us h r;injection h with h;subst h;cases r.gh;exact .nil
 |cons d l ih=>
  intro bs us h r;obtain⟨b,bs',rfl,h1,rfl⟩:=rY h;obtain⟨u,r',rfl,h2,h3⟩:=r.dN;subst h2;exact .cons _ (ih h1 h3)
theorem gO : ∀bs:List Bool,anyB bs=bs.any id
 | []=>rfl
 |b::r=>by cases b<;>simp[anyB,gO r]
theorem yJ(n:Nat):P4 (toString (OO n))=aP (m7 n):=by
 rw[Str.ofString_eq_toList];show(⟨((Nat.repr n).toList.map XW).toArray⟩:Str)=aP (m7 n)
 unfold m7 aP Nat.repr;simp
section
variable{τ:aF}{θ:aX}{s:Shared}
theorem yN{d:D}{n:Nat}(h:E3 d=some n):(∃l,d = .str l/\n=l.length)\/(∃l,d = .tup l/\n=l.length)\/∃l,d = .lst l/\n=l.length:=by
 cases d with
 |str l=>exact .inl ⟨l,rfl,(j' h).symm⟩
 |tup l=>exact .inr (.inl ⟨l,rfl,(j' h).symm⟩)
 |lst l=>exact .inr (.inr ⟨l,rfl,(j' h).symm⟩)
 |_=>exact aE h
theorem ml{n:Nat}{t k:Nat}(S:SR c τ θ ρ Γ s):DP c τ θ ρ Γ (.int n) (.int n t) {s with toks:=k} := .here (d := .int _) ⟨_,rfl⟩ (S.tok _)
theorem F7{v:V}{u:Value}{n:Nat}(h:E0 Γ v=some n)(q:ay n=true)(S:SR c τ θ ρ Γ s)(r:VV τ θ v u):N5 (M' PG c.w) c.A (call (.builtin "len") [u]) (DP c τ θ ρ Γ (.int n)) bh s:=by
 cases v with
 |loc k=>
  obtain⟨m,h1,h2⟩:=ai h;obtain⟨l,h3,rfl⟩:=aJ h2;rw[Mu.eQ h3] at h1;obtain⟨a,rfl,ht⟩:=r;obtain⟨σ,K,ha,vs,t1,t2⟩:=S.c4 ht h1;have hz:vs.size=l.length:=by rw[t2.length];simp
  rw[<-hz] at q ⊢;exact YG t1.isList (mw q) (ml S)
 |d d=>
  rcases yN h with⟨l,rfl,rfl⟩ | ⟨l,rfl,rfl⟩ | ⟨l,rfl,rfl⟩
  ·obtain⟨t,rfl⟩:=r
   rw[<-bM] at q ⊢;exact XI (Tq.mpr (mw q)) (ml S)
  ·obtain⟨a,rfl,ht⟩:=r
   obtain⟨vs,t1,t2⟩:=S.fY ht;have hz:vs.size=l.length:=by rw[t2.length];simp
   rw[<-hz] at q ⊢;exact len_tuple t1 (mw q) (ml S)
  ·obtain⟨a,rfl,ht⟩:=r
   obtain⟨vs,t1,t2⟩:=S.eY ht;have hz:vs.size=l.length:=by rw[t2.length];simp
   rw[<-hz] at q ⊢;exact YG t1 (mw q) (ml S)
theorem fH{v:V}{u:Value}{l:Tx}(h:v.of D.ck=some l)(r:VV τ θ v u): ∃t,u = .str (aP l) t:=by
 obtain⟨d,rfl,h⟩:=V.of_eq h;rw[D.cC h] at r;exact r
theorem j6{v:V}{u:Value}{i:Int}(h:v.of D.int?=some i)(r:VV τ θ v u): ∃t,u = .int i t:=by
 obtain⟨d,rfl,h⟩:=V.of_eq h;rw[D.cP h] at r;exact r
theorem DD{v:V}{u:Value}{l:List D}(h:v.of D.gm=some l)(r:VV τ θ v u):VR τ (.lst l) u:=by
 obtain⟨d,rfl,h⟩:=V.of_eq h;rw[D.eQ h] at r;exact r
theorem yM{d:D}{b:Bool}(h:yG d=some b):(∃l,d = .tup l/\b=true)\/∃l,d = .lst l/\b=false:=by
 cases d with
 |tup l=>exact .inl ⟨l,rfl,(j' h).symm⟩
 |lst l=>exact .inr ⟨l,rfl,(j' h).symm⟩
 |_=>exact aE h
theorem zl{v:Value}(h:isTup v=true):v = .type "tuple":=by
 cases v with
 |type n=>exact congrArg Value.type (of_decide_eq_true h)
 |_=>exact H' h
theorem Fj{v w:V}{u x n:Value}{b:Bool}(h1:v.of yG=some b)(h2:w.of D.val?=some n)(h3:isTup n=true)(S:SR c τ θ ρ Γ s)(r1:VV τ θ v u)(r2:VV τ θ w x):N5 (M' PG c.w) c.A (call (.builtin "isinstance") [u,x]) (DP c τ θ ρ Γ (.bool b)) bh s:=by
 obtain⟨d,rfl,h1⟩:=V.of_eq h1;obtain⟨e,rfl,h2⟩:=V.of_eq h2;rw[D.mF h2,zl h3] at r2;obtain rfl:x = .type "tuple":=r2;rcases yM h1 with⟨l,rfl,rfl⟩ | ⟨l,rfl,rfl⟩
 ·obtain⟨a,rfl,ht⟩:=r1
  obtain⟨vs,⟨o,t1,t2,t3⟩,_⟩:=S.fY ht;exact IsiPair.tuple_tuple t1 t2 (.here (d := .bool _) rfl S)
 ·obtain⟨a,rfl,ht⟩:=r1
  obtain⟨vs,⟨o,t1,t2,t3⟩,_⟩:=S.eY ht;exact IsiPair.list_tuple t1 t2 (.here (d := .bool _) rfl (S.tok _))
theorem DY{v:V}{u:Value}{l:List D}{bs:List Bool}(h1:v.of D.gm=some l)(h2:boolsOf l=some bs)(hb:c.A.handled=none)(S:SR c τ θ ρ Γ s)(r:VV τ θ v u):N5 (M' PG c.w) c.A (call (.builtin "any") [u]) (DP c τ θ ρ Γ (.bool (anyB bs))) bh s:=by
 obtain⟨a,rfl,ht⟩:=DD h1 r;obtain⟨vs,t1,t2⟩:=S.eY ht;obtain⟨σ,K⟩:=S.own;obtain⟨mv,F⟩:=K.Jm;refine LSm.any_bools (vs:=vs.toList) F (qp _ _) hb (by simpa using t1) (tj h2 t2) fun h' tk F' N' => ?_
 rw[<-gO];exact .here (d := .bool _) rfl (S.heap _ fun σ K=>K.ad (more:=[]) F F' N')
theorem log2_small{n:Nat}(h:n<=16777216):n.log2<1920:=by
 by_cases h0:n=0
 ·subst h0;decide
 ·have:=(Nat.log2_lt h0 (k:=25)).mpr (ot h)
  exact bg ‹_›
theorem yP{as:List V}{us:List Value}{r:D}(h:builtin .range Γ as=some r)(S:SR c τ θ ρ Γ s)(hv:bT τ θ as us):N5 (M' PG c.w) c.A (call (.type "range") us) (DP c τ θ ρ Γ r) bh s:=by
 cases q:Mine.one as with
 |some v=>
  rw[builtin,q] at h;obtain⟨b,h1,rfl⟩:=aJ h;rw[ea q] at hv;obtain⟨u,rfl,r1⟩:=fB hv;obtain⟨t,rfl⟩:=j6 h1 r1;exact call_range_1 (wC S _)
 |none=>
  rw[builtin,q] at h;obtain⟨w,h1,h⟩:=ai h;obtain⟨a,h2,h⟩:=ai h;obtain⟨b,h3,h⟩:=ai h;obtain⟨k,h4,h⟩:=ai h;obtain⟨j,h5,h⟩:=ai h;obtain⟨h6,rfl⟩:=bF h;rw[zv h1] at hv;obtain⟨u,x,y,rfl,r1,r2,r3⟩:=uU hv;obtain⟨t,rfl⟩:=j6 h2 r1;obtain⟨t',rfl⟩:=j6 h3 r2;obtain⟨t'',rfl⟩:=j6 h4 r3;rw[OG,PT] at h6;have hj:j<=16777216:=N9 h6.2;rw[gr h5];refine call_range_3 (fun e => ?_) (wC S _) (.inl (noPylong_small (by show j<_;exact ot ‹_›)))
  rw[US e] at h6;cases h6.1
end
theorem vc{b:Bi}{as:List V}{us:List Value}{r:D}{τ θ s}(h:builtin b Γ as=some r)(hb:b.calm=true\/c.A.handled=none)(S:SR c τ θ ρ Γ s)(hv:bT τ θ as us):N5 (M' PG c.w) c.A (call b.val us) (DP c τ θ ρ Γ r) bh s:=by
 cases b with
 |range=>exact yP h S hv
 |isinst=>
  obtain⟨w,h1,h⟩:=ai h;obtain⟨b,h2,h⟩:=ai h;obtain⟨n,h3,h⟩:=ai h;obtain⟨h4,rfl⟩:=bF h;rw[gB h1] at hv;obtain⟨u,x,rfl,r1,r2⟩:=i6 hv;exact Fj h2 h3 h4 S r1 r2
 |_=>
  obtain⟨v,h1,h⟩:=ai h;obtain⟨n,h2,h⟩:=ai h;rw[ea h1] at hv;obtain⟨u,rfl,r1⟩:=fB hv
  first
   |(obtain⟨h3,rfl⟩:=bF h;exact F7 h2 h3 S r1)
   |(obtain⟨x,h3,rfl⟩:=aJ h
     first
      |exact DY h2 h3 (hb.resolve_left H') S r1
      |(obtain⟨t,rfl⟩:=fH h2 r1;rw[ea h3];exact P.ord_of_char (.here (d := .int _) ⟨s.toks,rfl⟩ (S.tok _))))
   |(obtain⟨k,h3,h⟩:=ai h
     obtain⟨h4,rfl⟩:=bF h;obtain⟨t,rfl⟩:=j6 h2 r1;have:=N9 h4;rw[gr h3]
     first
      |exact chr_of_range (O9 k) (P8.mpr this) (.here (d := .str _) ⟨s.toks,rfl⟩ (S.tok _))
      |(refine P.str_of_int (log2_small this) (.here (d := .str _) ⟨s.toks,?_⟩ (S.tok _));rw[<-yJ]))
theorem tH{b:Bi}{as:List V}{us:List Value}{z:V}{τ θ s}(h:(cond (b.calm||m.b) (builtin b Γ as) none).map V.d=some z)(hm:m.b=true->c.A.handled=none)(S:SR c τ θ ρ Γ s)(hv:bT τ θ as us):N5 (M' PG c.w) c.A (call b.val us) (DV c τ θ ρ Γ z) bh s:=by
 obtain⟨r,h1,rfl⟩:=aJ h;obtain⟨q,h2⟩:=cB h1;exact Ob (vc h2 ((QX.mp q).imp_right hm) S hv) (fun w s' h=>h.v) fun _ _ x=>x
theorem Bg{b:Bi}{f:Ex}{es p}{x:Str}{p':W7}(hf:f.back T c.ns = .Name x p')(hg:GV (KK c.w.params) x b.val)(hk:c.env.kindOf x=some .globalImplicit)(h2:i7 c T O m es)(hm:m.b=true->c.A.handled=none):SE c T O m (.gH b f es p):=fun ρ Γ => .of fun τ θ s hn S=>
 Call_ (gb (congrArg (fun x=>Q7 x c.env) hf) (kN (v:=b.val) S hg hk (kA (P:=fun h=>True) (fC (h2 ρ Γ (aK p)).1) (fun h _=>wU b h)
  ((h2 ρ Γ _).2.go hn S (.refl _ _) fun us Pn Pu O5 vs PJ PA PI m₂ PX OW Px O6=>⟨trivial,fR Px O6 PI fun z h=>tH h hm OW PX⟩)))) (by rw[hf];rfl)
end
end Mine
end
section
open PyProof Builtin Builtin.Str
namespace Mine
variable{c:Cx}{ρ:aq}{Γ:ag}{T:Tab}{O:aL}{m:Md}
section
theorem vQ(ch:Nat)(a:Nat)(r:Tx):eW [ch] (a::r)=I' ch a:=by
 simp only[mC,mq,mG];cases I' ch a<;>rfl
theorem kD(ch:Nat): ∀(r:Tx) (j:Nat),(dM [ch] r j=none/\∀k:Nat,r[k]?≠some ch)\/∃v:Nat,dM [ch] r j=some (j+v)/\r[v]?=some ch/\∀k:Nat,k<v->r[k]?≠some ch
 | [],j => .inl ⟨rfl,fun k=>by simp⟩
 |a::r,j=>by
  simp only[pD,pK,vQ];cases q:I' ch a with
  |true=>
   have:=N2 q;subst this;exact .inr ⟨0,rfl,rfl,fun k h=>absurd h (Nat.not_lt_zero _)⟩
  |false=>
   have hne:=PM q;rcases kD ch r (j+1) with⟨h1,h2⟩ | ⟨v,h1,h2,h3⟩
   ·refine .inl ⟨h1,fun k => ?_⟩
    cases k with
    |zero=>simpa using PF hne
    |succ k=>simpa using h2 k
   ·refine .inr ⟨v+1,by rw[cond_false,h1];congr 1;exact O2 _ _,by simpa using h2,fun k hk => ?_⟩
    cases k with
    |zero=>simpa using PF hne
    |succ k=>simpa using h3 k (P7 ‹_›)
theorem find_eq(l:Tx)(ch i:Nat):VA (aP l) (aP [ch]) (i:Int)=(match dM [ch] (l.drop i) i with | some i=>(i:Int) | none => -1):=by
 have hf:UJ (aP l).length (i:Int)=i:=by
  unfold UJ;rw[if_neg (Sf.mpr (O9 i))];have:max (0:Int) (i:Int)=i:=Int.max_eq_right (O9 i);rw[this];rfl
 have gd : ∀v,(aP l).cps.getD v 0=(l[v]?).getD 0:=fun v=>by simp[aP,Array.getD_eq_getD_getElem?]
 have hl:(aP l).length=l.length:=bM l;rcases StrLaws.find3_spec (aP l) ch (i:Int) with⟨h1,h2⟩ | ⟨k,h1,h2,h3,h4,h5⟩
 ·rw[show aP [ch]=⟨#[ch]⟩ from rfl,h1]
  rcases kD ch (l.drop i) i with⟨g1,g2⟩ | ⟨v,g1,g2,g3⟩
  ·rw[g1]
  ·exfalso
   rw[Qr] at g2;have hlt:=(N3.mp g2).1;refine h2 (i+v) (by rw[hf];exact OH _ _) (by rw[hl];exact hlt) ?_
   rw[gd,g2];rfl
 ·rw[show aP [ch]=⟨#[ch]⟩ from rfl,h1]
  rw[hf] at h2 h5;rw[hl] at h3;have hk:l[k]?=some ch:=by
   rw[N8 h3];rw[gd,N8 h3] at h4;simpa using h4
  rcases kD ch (l.drop i) i with⟨g1,g2⟩ | ⟨v,g1,g2,g3⟩
  ·exfalso
   refine g2 (k-i) ?_
   rw[Qr,show i+(k-i)=k from PZ ‹_›];exact hk
  ·rw[g1]
   rw[Qr] at g2;have:i+v=k:=by
    rcases Vl (i+v) k with h | h | h
    ·exact absurd (by rw[gd,g2];rfl) (h5 (i+v) (OH _ _) h)
    ·exact h
    ·exfalso
     refine g3 (k-i) (Nat.sub_lt_left_of_lt_add ‹_› h) ?_
     rw[Qr,show i+(k-i)=k from PZ ‹_›];exact hk
   rw[this]
theorem wO(x y:PySem.Str):Txt.find x y=VA x y ((0:Nat):Int):=by
 have h:UJ x.length ((0:Nat):Int)=0:=by unfold UJ;simp
 unfold Txt.find VA;rw[h];cases occurrences x y 0 x.length 1<;>rfl
theorem lD : ∀x l:Tx,eW x l=(l.take x.length==x)
 | [],l=>by simp[mC,mq,mG]
 |a::x,[]=>by simp[mC,mq,mG]
 |a::x,b::l=>by
  simp only[mC,mq,mG,N6,UA];rw[lD x l];cases q:I' a b with
  |true=>
   have:=N2 q;subst this;simp[UP]
  |false=>
   have:=PM q;simp[UP,PF this]
theorem wg(l x:Tx):Wi (aP l) (aP x)=eW x l:=by
 unfold Wi;rw[Uw,lD,bM,bM];simp only[aP,S3,QU,Ql];by_cases h:x.length<=l.length
 ·simp[h]
 ·have:(l.take x.length==x)=false:=by
   rw[beq_eq_false_iff_ne];intro e;have:=congrArg Qs e;rw[Sv] at this;exact h (this▸Sz ..)
  simp[this]
theorem BH(l x:Tx):W6 (aP l) (aP x)=eW x.reverse l.reverse:=by
 unfold W6;rw[Uw,lD,bM,bM];simp only[aP,QU,Ql];rw[QW,List.take_reverse];by_cases h:x.length<=l.length
 ·simp only[h,decide_true,Rm]
  rw[Qx (by rw[Pd,Ry h];exact Ox _)]
  rw[Pz,beq_iff_eq,beq_iff_eq,List.reverse_inj]
 ·have:((l.drop (l.length-x.length)).reverse==x.reverse)=false:=by
   rw[beq_eq_false_iff_ne];intro e;have:=congrArg Qs e;rw[QW,QW,Pd] at this;exact h (this▸Ti ..)
  simp[this,h]
theorem yq(l:Tx)(h : ∀ch∈l,ch<128):Txt.lower (aP l)=aP (l.map low):=by
 rw[lower_ascii (by simpa [aP] using h)]
 simp only[aP,List.map_toArray];congr 2;apply QV;intro a ha;unfold lo1 low;by_cases q:65<=a/\a<=90
 ·rw[if_pos q]
  have:(OB 65 a&&OB a 90)=true:=by simp[q.1,q.2]
  rw[this];rfl
 ·rw[if_neg q]
  have:(OB 65 a&&OB a 90)=false:=by
   rw[Bool.and_eq_false_iff];by_cases q1:65<=a
   ·right;rw[<-Rx,O4];exact fun h=>q ⟨q1,h⟩
   ·left;rw[<-Rx,O4];assumption
  rw[this];rfl
theorem oT(s:Tx): ∀(xs:List Tx) (acc:Array Nat),(xs.map aP).foldl (fun acc p=>acc++(aP s).cps++p.cps) acc=acc++((xs.map fun x=>s++x).flatten).toArray
 | [],acc=>by simp
 |x::xs,acc=>by
  simp only[Oa,RE,Sm];rw[oT s xs];simp[aP,Array.append_assoc]
theorem nW(s x:Tx): ∀xs:List Tx,bU s (x::xs)=x++(xs.map fun y=>s++y).flatten
 | []=>by simp[eI,eO,eN]
 |y::ys=>by
  simp only[eI,eO,eN,Oa,Sm];rw[nW s y ys];simp
theorem join_eq(s:Tx)(xs:List Tx):Wj (aP s) (xs.map aP)=aP (bU s xs):=by
 unfold Wj glued;cases xs with
 |nil=>rfl
 |cons x xs=>
  rw[nW];simp only[Oa,List.drop_one,List.tail_cons,List.headD_cons];rw[oT];simp[aP]
theorem qg(s:Tx): ∀xs:List Tx,(xs.map Qs).sum+xs.length * s.length<=(bU s xs).length+s.length
 | []=>by simp[eI,eO,eN]
 | [x]=>by simp[eI,eO,eN]
 |x::y::r=>by
  have:=qg s (y::r);simp only[eI,eO,eN,N1,Oa,List.sum_cons,N6] at this ⊢;have e:(r.length+1+1) * s.length=(r.length+1) * s.length+s.length:=by rw[Nat.add_mul,Nat.one_mul]
  exact bX (cb e) this
theorem tn{d:D}{l:List D}{bs:List Tx}(h:strsOf (d::l)=some bs): ∃b r,d = .str b/\strsOf l=some r/\bs=b::r:=by
 cases d with
 |str b=>
  obtain⟨r,h1,h2⟩:=aJ h;exact⟨b,r,rfl,h1,h2.symm⟩
 |_=>exact aE h
theorem ko{l:List D}{τ}: ∀{xs:List Tx} {us:List Value},strsOf l=some xs->bz τ l us->U6 us (xs.map aP):=by
 induction l with
 |nil=>intro bs us h r;injection h with h;subst h;cases r.gh;exact .nil
 |cons d l ih=>
  intro bs us h r;obtain⟨b,bs',rfl,h1,rfl⟩:=tn h;obtain⟨u,r',rfl,h2,h3⟩:=r.dN;obtain⟨t,rfl⟩:=h2;exact .cons _ _ (ih h1 h3)
theorem tr{q:PySem.Str×Value}{l:List (PySem.Str×Value)}(h:q.1∉l.map (·.1)):SN (q::l) q.1=l:=by
 have k : ∀p∈l,decide (p.1≠q.1)=true:=fun p hp=>decide_eq_true (fun e:p.1=q.1=>h (e▸Ph hp))
 unfold SN;rw[Rw (by simp)]
 exact List.filter_eq_self.mpr k
theorem ro{q:PySem.Str×Value}{l:List (PySem.Str×Value)}{k:PySem.Str}(h:q.1≠k):SN (q::l) k=q::SN l k:=by
 unfold SN;exact Rv (decide_eq_true h)
theorem bD.drop{E:Type}{R:E->Value->Prop}{k:Tx}{l:List (Tx×E)}{kvs:List (PySem.Str×Value)}:bD R aP l kvs->(kvs.map (·.1)).Nodup->bD R aP (dh k l) (SN kvs (aP k)):=
 bD.ind (P:=fun l kvs=>(kvs.map (·.1)).Nodup->bD R aP (dh k l) (SN kvs (aP k))) (fun _=>trivial) fun p q as bs hk hv hr ih nd=>by
  obtain⟨n1,n2⟩:=Py.mp nd;rw[gW];cases e:ao k p.1 with
  |true=>
   have:aP k=q.1:=(congrArg aP ((fD _ _).mp e)).trans hk;rw[this,tr n1];exact hr
  |false=>
   rw[ro fun h=>H' (e.symm.trans ((fD _ _).mpr (mx (hk.trans h)).symm))]
   exact⟨hk,hv,ih n2⟩
theorem ji{E:Type}{k:Tx}{l:List (Tx×E)}(h:bw k l=none):dh k l=l:=by
 induction l with
 |nil=>rfl
 |cons x r ih=>
  simp only[eJ,eK,jc,gW] at h ⊢;cases q:ao k x.1 with
  |true=>rw[q] at h;cases h
  |false=>rw[q] at h;rw[cond_false,ih h]
noncomputable def Me.ty:Me->String
 | .append=>"list" | .get | .pop=>"dict" | _=>"str"
noncomputable def Me.id:Me->String
 | .find=>"str.find" | .startsw=>"str.startswith" | .endsw=>"str.endswith" | .lower=>"str.lower" | .join=>"str.join" | .append=>"list.append" | .get=>"dict.get" | .pop=>"dict.pop"
theorem y6(me:Me):PlainAttrs me.ty/\Slot me.ty me.name me.id/\Sx (.builtin me.id)=pure (.type "method_descriptor"):=by
 cases me
 ·exact⟨QO,F.slot_str_find,F.type_str_find⟩
 ·exact⟨QO,F.slot_str_startswith,F.type_str_startswith⟩
 ·exact⟨QO,F.slot_str_endswith,F.type_str_endswith⟩
 ·exact⟨QO,F.slot_str_lower,F.type_str_lower⟩
 ·exact⟨QO,F.slot_str_join,F.type_str_join⟩
 ·exact⟨F.plainAttrs_list,F.slot_list_append,F.type_list_append⟩
 ·exact⟨VP,WG,F.type_dict_get⟩
 ·exact⟨VP,Tf,F.type_dict_pop⟩
theorem rm{α:Type}{o:Option α}(h:o.isSome=true): ∃a,o=some a:=SY.mp h
theorem tu{me:Me}{a:V}{u:Value}{τ θ s}(h:gF Γ me a=true)(S:SR c τ θ ρ Γ s)(ha:VV τ θ a u):s.TypeIs u me.ty/\∀b,u = .ref b->∃ob,s.heap.get? b=some ob/\ob.dict=none:=by
 have dic : ∀{x},lY Γ a=some x->s.TypeIs u "dict"/\∀b,u = .ref b->∃ob,s.heap.get? b=some ob/\ob.dict=none:=fun h=>by
  obtain⟨e,hg⟩:=nv h;rw[e] at ha;obtain⟨a',rfl,Pa⟩:=ha;obtain⟨σ,K,hm,kvs,d1,d2⟩:=S.c4 Pa hg;exact⟨d1.mapOf.typeIs,d1.mapOf.noDict⟩
 cases me with
 |append=>
  obtain⟨x,h⟩:=rm h;obtain⟨e,hg⟩:=rE h;rw[e] at ha;obtain⟨a',rfl,Pa⟩:=ha;obtain⟨σ,K,hm,vs,t1,t2⟩:=S.c4 Pa hg;obtain⟨o,n,e1,e2,e3,e4⟩:=t1;exact⟨⟨o,e1,e2⟩,fun b e=>by injection e with e;subst e;exact⟨o,e1,e3⟩⟩
 |get=>obtain⟨x,h⟩:=rm h;exact dic h
 |pop=>obtain⟨x,h⟩:=rm h;exact dic h
 |_=>
  obtain⟨x,h⟩:=rm h;obtain⟨t,rfl⟩:=fH h ha;exact⟨typeIs_str _ _ _,fun _ e=>by injection e⟩
def MP(c:Cx)(τ:aF)(θ:aX)(ρ:aq)(r:V×ag):Value->Shared->Prop:=fun w s'=>VV τ θ r.1 w/\SR c τ θ ρ r.2 s'
theorem B7 {Sr:Tx} {xs:List Tx} {τ θ} {s:Shared} {t:XA} {D:Addr} (S:SR c τ θ ρ Γ s) (q:ay ((bU Sr xs).length+Sr.length)=true)
  (hj:((∃vs,s.heap.IsList D vs/\U6 vs.toList (xs.map aP))\/∃vs,UL s.heap D vs/\U6 vs.toList (xs.map aP))) :
  N5 (M' PG c.w) c.A (call (.builtin "str.join") [.str (aP Sr) t,.ref D]) (MP c τ θ ρ (.d (.str (bU Sr xs)),Γ)) bh s:=by
 have hn:(bU Sr xs).length+Sr.length<=16777216:=N9 q;have hok:((xs.map aP).map (·.length)).sum+(xs.map aP).length * (aP Sr).length<=16777216:=by
  have:=qg Sr xs;rw[bM,Oe,Pc];have e:(xs.map ((·.length)∘aP))=xs.map Qs:=by
   apply QV;intro a _;exact bM a
  rw[e];exact N0 ‹_› ‹_›
 have fin : ∀t' k,MP c τ θ ρ (.d (.str (bU Sr xs)),Γ) (.str (Wj (aP Sr) (xs.map aP)) t') {s with toks:=k}:=fun t' k=>⟨⟨t',by rw[join_eq]⟩,S.tok _⟩
 rcases hj with⟨vs,h1,h2⟩ | ⟨vs,h1,h2⟩
 ·exact join_list h1 h2 hok fin
 ·exact join_tuple h1 h2 hok fin
section
variable{τ:aF}{θ:aX}{s:Shared}{a:V}{as:List V}{us:List Value}{r:V×ag}{u:Value}
theorem xc(o:Option Nat):AB o=match o with | some i=>((i:Nat):Int) | none => -1:=by cases o<;>rfl
theorem BQ(h:method Γ .find a as=some r)(S:SR c τ θ ρ Γ s)(ha:VV τ θ a u)(hv:bT τ θ as us):N5 (M' PG c.w) c.A (call (.builtin "str.find") (u::us)) (MP c τ θ ρ r) bh s:=by
 obtain⟨l,h1,h⟩:=ai h;obtain⟨t,rfl⟩:=fH h1 ha;cases q:Mine.one as with
 |some v=>
  rw[q] at h;obtain⟨x,h2,h⟩:=ai h;obtain⟨ch,h3,rfl⟩:=aJ h;rw[ea q] at hv;obtain⟨y,rfl,r1⟩:=fB hv;obtain⟨t',rfl⟩:=fH h2 r1;rw[ea h3];refine SC.find ⟨⟨s.toks,?_⟩,S.tok _⟩
  rw[wO,find_eq,S3,xc]
 |none=>
  rw[q] at h;obtain⟨w,h2,h⟩:=ai h;obtain⟨x,h3,h⟩:=ai h;obtain⟨ch,h4,h⟩:=ai h;obtain⟨i,h5,h⟩:=ai h;obtain⟨k,h6,rfl⟩:=aJ h;rw[gB h2] at hv;obtain⟨y,z,rfl,r1,r2⟩:=i6 hv;obtain⟨t',rfl⟩:=fH h3 r1;obtain⟨t'',rfl⟩:=j6 h5 r2;rw[ea h4,gr h6];refine SC.find3 ⟨⟨s.toks,?_⟩,S.tok _⟩
  rw[show(OO k:Int)=((k:Nat):Int) from rfl,find_eq,xc]
theorem DX{v:V}{l:List D}{xs:List Tx}{y:Value}(h:EK Γ v=some l)(hx:strsOf l=some xs)(S:SR c τ θ ρ Γ s)(r:VV τ θ v y): ∃b,y = .ref b/\((∃vs,s.heap.IsList b vs/\U6 vs.toList (xs.map aP))\/∃vs,UL s.heap b vs/\U6 vs.toList (xs.map aP)):=by
 cases v with
 |loc n=>
  obtain⟨m,h1,h2⟩:=ai h;rw[Mu.eQ h2] at h1;obtain⟨b,rfl,ht⟩:=r;obtain⟨σ,K,hm,vs,t1,t2⟩:=S.c4 ht h1;exact⟨b,rfl,.inl ⟨vs,t1.isList,ko hx t2⟩⟩
 |d d=>
  have:d = .lst l\/d = .tup l:=by
   cases d with
   |lst k=>exact .inl (congrArg D.lst (j' h))
   |tup k=>exact .inr (congrArg D.tup (j' h))
   |_=>exact aE h
  rcases this with rfl | rfl
  ·obtain⟨b,rfl,ht⟩:=r
   obtain⟨vs,t1,t2⟩:=S.eY ht;exact⟨b,rfl,.inl ⟨vs,t1,ko hx t2⟩⟩
  ·obtain⟨b,rfl,ht⟩:=r
   obtain⟨vs,t1,t2⟩:=S.fY ht;exact⟨b,rfl,.inr ⟨vs,t1,ko hx t2⟩⟩
theorem xy(h:method Γ .append a as=some r)(S:SR c τ θ ρ Γ s)(ha:VV τ θ a u)(hv:bT τ θ as us):N5 (M' PG c.w) c.A (call (.builtin "list.append") (u::us)) (MP c τ θ ρ r) bh s:=by
 obtain⟨⟨n,l⟩,h1,h⟩:=ai h;obtain⟨v,h2,h⟩:=ai h;obtain⟨x,h3,h⟩:=ai h;obtain⟨q,rfl⟩:=bF h;obtain⟨e,hg⟩:=rE h1;rw[e] at ha;rw[ea h2,V.cf h3] at hv;obtain⟨a',rfl,Pa⟩:=ha;obtain⟨y,rfl,hy⟩:=fB hv;obtain⟨σ,K,hm,vs,t1,t2⟩:=S.c4 Pa hg;have hz:vs.size=l.length:=by rw[t2.length];simp
 refine list_append_plainL t1 (fun h' L' hs=>⟨rfl,S.uQ s.toks Pa hg hs fun σ=>⟨_,L',?_⟩⟩) (by rw[hz];exact N0 (Rj _) (cN q))
 rw[UW];exact t2.append ⟨hy,trivial⟩
theorem DO(h:method Γ .get a as=some r)(S:SR c τ θ ρ Γ s)(ha:VV τ θ a u)(hv:bT τ θ as us):N5 (M' PG c.w) c.A (call (.builtin "dict.get") (u::us)) (MP c τ θ ρ r) bh s:=by
 obtain⟨⟨n,l⟩,h1,h⟩:=ai h;obtain⟨v,h2,h⟩:=ai h;obtain⟨k,h3,rfl⟩:=aJ h;obtain⟨e,hg⟩:=nv h1;rw[e] at ha;rw[ea h2] at hv;obtain⟨a',rfl,Pa⟩:=ha;obtain⟨y,rfl,r1⟩:=fB hv;obtain⟨t',rfl⟩:=fH h3 r1;obtain⟨σ,K,hm,kvs,d1,d2⟩:=S.c4 Pa hg;refine U1 WG d1.mapOf.typeIs F.entry_dict_get (F.args_dict_get_2 _ _) (meets_dict_get (PySem.strKind PG c.w) _ (QS ..) (S.big K hm (by simp))) ⟨_,d1.mapOf,?_,S.tok _⟩
 have hl:=bD.look (k:=k) d2;cases q:bw k l with
 |none=>rw[hl.2 q];exact rfl
 |some d=>obtain⟨w,w1,w2⟩:=hl.1 d q;rw[w1];exact w2
theorem E6(h:method Γ .pop a as=some r)(S:SR c τ θ ρ Γ s)(ha:VV τ θ a u)(hv:bT τ θ as us):N5 (M' PG c.w) c.A (call (.builtin "dict.pop") (u::us)) (MP c τ θ ρ r) bh s:=by
 obtain⟨⟨n,l⟩,h1,h⟩:=ai h;obtain⟨w,h2,h⟩:=ai h;obtain⟨k,h3,h⟩:=ai h;obtain⟨z,h4,h⟩:=ai h;obtain⟨q,rfl⟩:=bF h;rw[OG] at q;obtain⟨e,hg⟩:=nv h1;rw[e] at ha;rw[gB h2,V.cf h4,D.qG q.1] at hv;obtain⟨a',rfl,Pa⟩:=ha;obtain⟨y,z,rfl,r1,hz⟩:=i6 hv;obtain⟨t',rfl⟩:=fH h3 r1;subst hz;obtain⟨σ,K,hm,kvs,d1,d2⟩:=S.c4 Pa hg;have hl:=bD.look (k:=k) d2;cases q2:bw k l with
 |none=>
  refine U1 Tf d1.mapOf.typeIs Wk (VQ _ _ _) (meets_dict_pop_default (PySem.strKind PG c.w) a' (QS ..) (S.big K hm (by simp)) rfl _) ⟨kvs,d1,hl.2 q2,rfl,?_⟩
  rw[ji q2,nO (fh hg)];exact S.tok _
 |some d=>
  obtain⟨w,w1,w2⟩:=hl.1 d q2;exact U1 Tf d1.mapOf.typeIs Wk (VQ _ _ _) (meets_dict_pop_there (PySem.strKind PG c.w) a' (QS ..) [.none] (.inr ⟨_,rfl⟩) rfl) ⟨kvs,w,d1,by rw[<-d2.length];exact cN q.2,w1,fun h' D' hs'=>⟨w2,S.uQ _ Pa hg hs' fun σ=>⟨_,D',d2.drop (iP d1)⟩⟩⟩
end
theorem xD{me:Me}{a:V}{as:List V}{us:List Value}{r:V×ag}{u:Value}{τ θ s}(h:method Γ me a as=some r)(S:SR c τ θ ρ Γ s)(ha:VV τ θ a u)(hv:bT τ θ as us):N5 (M' PG c.w) c.A (call (.builtin me.id) (u::us)) (MP c τ θ ρ r) bh s:=by
 cases me with
 |find=>exact BQ h S ha hv
 |append=>exact xy h S ha hv
 |get=>exact DO h S ha hv
 |pop=>exact E6 h S ha hv
 |lower=>
  obtain⟨l,h1,h⟩:=ai h;obtain⟨q,rfl⟩:=bF h;rw[OG,OG] at q;obtain⟨t,rfl⟩:=fH h1 ha;rw[QF.mp q.1] at hv;cases hv.gh;have h2 : ∀ch∈l,ch<128:=fun ch hc=>cp (OV.mp q.2.2 ch hc)
  exact SCL.lower (by rw[bM];exact N0 (N9 q.2.1) (by decide)) fun _=>⟨⟨s.toks,by rw[yq l h2]⟩,S.tok _⟩
 |join=>
  obtain⟨Sr,h1,h⟩:=ai h;obtain⟨v,h2,h⟩:=ai h;obtain⟨l,h3,h⟩:=ai h;obtain⟨xs,h4,h⟩:=ai h;obtain⟨q,rfl⟩:=bF h;obtain⟨t,rfl⟩:=fH h1 ha;rw[ea h2] at hv;obtain⟨y,rfl,r1⟩:=fB hv;obtain⟨b,rfl,hj⟩:=DX h3 h4 S r1;exact B7 S q hj
 |_=>
  obtain⟨l,h1,h⟩:=ai h;obtain⟨v,h2,h⟩:=ai h;obtain⟨x,h3,rfl⟩:=aJ h;obtain⟨t,rfl⟩:=fH h1 ha;rw[ea h2] at hv;obtain⟨y,rfl,r1⟩:=fB hv;obtain⟨t',rfl⟩:=fH h3 r1
  first
   |exact SC.startswith ⟨by rw[wg];exact rfl,S⟩
   |exact SC.endswith ⟨by rw[BH];exact rfl,S⟩
end
end Mine
end
section
open PyProof Builtin Builtin.ObjectAttr Builtin.BaseException
namespace Mine
variable{c:Cx}{ρ:aq}{Γ:ag}{T:Tab}{O:aL}{m:Md}
section
theorem lZ {prog:Q0} {w:World} {A:Around} {E:Value->Shared->Prop} {s:Shared} {env:R0} {o:PySem.Expr} {name:PySem.Str} {apos pos:W7} {args:List PySem.Expr} {Q:Value->Shared->Prop}
  (hbase:YF o name env (Q7 o env)=Q7 o env) (hall:(RM args env).all (fun p => !p.1)=true) (hlen:args.length<30) (hline:(apos.endLine==pos.line)=true)
  (h:N5 (M' prog w) A (Q7 o env) (fun ov OU => ∀pl,N5 (M' prog w) A (UI ov name pl) (fun r Pn=>N5 (M' prog w) A (callWith pos r.1 r.2 (Wf pos (RM args env)) []) Q E Pn) E OU) E s) :
  N5 (M' prog w) A (Q7 (.Call (.Attribute o name apos) args [] pos) env) Q E s:=by
 rw[arm_eval_Call,hbase];refine u' (Ob h (fun ov OU Rr=>u' (PN ?_)) fun _ _ e=>e)
 have hform:X6 (args.length+([]:List Keyword).length) (Wf pos (RM args env)) (backToKw pos (keywordEach [] env))=true:=by
  unfold X6;rw[fC hall];exact decide_eq_true (p:=args.length+0+0<30) hlen
 have hpos:YD true o env apos pos=pure pos:=by unfold YD;simp[hline]
 unfold methodCall;rw[hform];unfold calleeOf;rw[if_pos rfl];refine u' (wpAny_holding (Ob (Rr _) (fun r Pn Wv => ?_) fun _ _ e=>e))
 obtain⟨f,first⟩:=r
 exact u' (wpAny_of_eq hpos Wv)
theorem fx(es:bf)(T:Tab)(ns:List PySem.Str):(es.back T ns).length=es.len:=by
 match es with
 | .nil=>rfl
 | .cons e r=>simp only[bf.back,N6,fx r T ns,bf.len]
theorem EV{a me es pa p}(ha:SE c T O m a)(hb:a.based=true)(h2:i7 c T O m es)(hlen:es.len<30)(hline:((aK pa).endLine==(aK p).line)=true):SE c T O m (.jz a me es pa p):=fun ρ Γ => .of fun τ θ s hn S=>
 lZ (pG hb ..) (h2 ρ Γ (aK p)).1 (by rw[fx];exact hlen) hline ((ha ρ Γ).go hn S (.refl _ _) fun u OU Oo OC x Od Oj Oz _ OL Ot n₁ OA pl=>eE n₁ OA fun q n₁ OA=>by
  obtain⟨hT,hd⟩:=tu q Ot OL;obtain⟨p1,p2,p3⟩:=y6 me;exact getMethod_builtin hT p1 p2 p3 hd (kA (P:=fun _=>True) (fC (h2 Od Oj (aK p)).1) (fun h _=>⟨.machine,.inr (.inl rfl),Rf rfl⟩) ((h2 Od Oj _).2.go n₁ Ot Oz (fun us Pn Pu O5 vs PJ PA PI m₂ PX OW Px O6=>⟨trivial,bt Px O6 fun r q2 _ e=>
   fA (Ob (xD q2 OW (VV.mono m₂.l m₂.k OL) PX) (fun w s' h => .fin PI (R:=RV) h.1 h.2 e) fun _ _ x=>x)⟩) OA)))
theorem B3{x:V}{n:Nat}(h:sx Γ x=some n):x = .loc n/\∃fs,bq Γ n=some (.inst 679 fs):=by
 obtain⟨k,h1,h⟩:=ai h;obtain⟨m,h2,h⟩:=ai h;obtain⟨q,rfl⟩:=bF h;refine⟨V.jm h1,?_⟩
 cases m with
 |inst C fs=>exact⟨fs,N2 q▸h2⟩
 |_=>exact H' q
def yY(w:World)(T:Tab)(k:Nat):Prop:=PU (KK w.params) (.ref 679) (T.fn.getD k "")=some (some (.ref (T.fa.getD k 0)))/\T5 (KK w.params) (.ref (T.fa.getD k 0))=some (.type "function")/\T.fn.getD k ""∉AN
theorem wd{k nn:Nat}{aa:Addr}{fs:List (Nat×V)}{τ θ s}{P:Value×List Value->Shared->Prop}{E:Value->Shared->Prop}{pl:Su Bool}(hU:yY c.w T k)(hg:bq Γ nn=some (.inst 679 fs))(Pa:θ[nn]?=some aa)(S:SR c τ θ ρ Γ s)(h:P (.ref (T.fa.getD k 0),[.ref aa]) s):N5 (M' PG c.w) c.A (UI (.ref aa) (T.fn.getD k "") pl) P E s:=by
 obtain⟨σ,K,hmu,d,mA,h1,h2',h3,⟨h4,h4'⟩,h5⟩:=S.c4 Pa hg;obtain⟨od,o1,o2⟩:=gA h2';exact method_fn S.K (ox:=⟨.ref 679,some d,.plain,#[]⟩) (od:=some od) ⟨h1,rfl,rfl,o1⟩ (Aw _) (H4 _) hU.1 hU.2.1 (by show(lookIn _ od).map _=_;rw[o2,h4 _ hU.2.2];rfl) h
theorem Bx {a k es pa p} {n:Nat} (ha:SE c T O m a) (hb:a.based=true) (h2:i7 c T O m es) (hlen:es.len<30) (hline:((aK pa).endLine==(aK p).line)=true)
  (hO:eA c.w T.fa O n) (hl:c.lv<=n) (hF:gJ c.w T) (hk:k<T.fa.length) (hm:m.b=true->c.A.handled=none) (hU:yY c.w T k):SE c T O m (.mE a k es pa p):=fun ρ Γ => .of fun τ θ s hn S=>
 lZ (pG hb ..) (h2 ρ Γ (aK p)).1 (by rw[fx];exact hlen) hline ((ha ρ Γ).go hn S (.refl _ _) fun u OU Oo OC x Od Oj Oz _ OL Ot n₁ OA pl=>bt n₁ OA fun nn q RI Qt=>by
  obtain⟨rfl,fs,hg⟩:=B3 q;obtain⟨aa,rfl,Pa⟩:=OL;exact wd hU hg Pa Ot (kA (P:=fun h=>(KK c.w.params).In h) (fC (h2 Od Oj (aK p)).1) (fun h X=>k9 hF hk h X) ((h2 Od Oj _).2.go RI Ot Oz (fun us Pn Pu O5 vs PJ PA PI m₂ PX OW Px O6=>
   ⟨OW.K,lJ (hO.wp rfl hl m.b k (.loc nn::vs) PJ PA hm (RG.kT Px) Pu O5 Pn (.ref aa::us) OW ⟨⟨aa,rfl,m₂.k _ _ Pa⟩,PX⟩) PI O6⟩) Qt)))
def pz(w:World)(T:Tab)(C:Addr)(k:Nat):Prop:=
 specialIn (KK w.params) (.ref C) "__getattribute__"=some (some (.builtin "type.__getattribute__"))/\(∃mc,readsIn (KK w.params) C mc=true/\findCls (KK w.params) (.ref C) mc "__init__"=some (.val (.ref (T.fa.getD k 0))))
theorem BE {a:Ex} {k es pa p} {n:Nat} {x:PySem.Str} {p':W7} {C:Addr} (hf:a.back T c.ns = .Name x p') (hg:GV (KK c.w.params) x (.ref C)) (hkd:c.env.kindOf x=some .globalImplicit) (hI:pz c.w T C k) (h2:i7 c T O m es) (hlen:es.len<30) (hline:((aK pa).endLine==(aK p).line)=true)
  (hO:eA c.w T.fa O n) (hl:c.lv<=n) (hF:gJ c.w T) (hk:k<T.fa.length) (hm:m.b=true->c.A.handled=none):SE c T O m (.init a (k+1) es pa p):=fun ρ Γ => .of fun τ θ s hn S=>by
 obtain⟨i1,mc,i2,i3⟩:=hI;exact lZ (by rw[hf];rfl) (h2 ρ Γ (aK p)).1 (by rw[fx];exact hlen) hline (gb (congrArg (fun x=>Q7 x c.env) hf) (kN (v := .ref C) S hg hkd fun pl=>method_cls S.K i1 (cls_value S.K i2 i3 rfl
  (kA (P:=fun h=>(KK c.w.params).In h) (fC (h2 ρ Γ (aK p)).1) (fun h X=>k9 hF hk h X) ((h2 ρ Γ _).2.go hn (S.tok _) (.refl _ _) fun us Pn Pu O5 vs PJ PA PI m₂ PX OW Px O6=>
   ⟨OW.K,lJ (hO.wp rfl hl m.b k vs PJ PA hm (RG.kT Px) Pu O5 Pn us OW PX) PI O6⟩)))))
theorem Dx:findCls [] (.type "Exception") (.type "type") "__init__"=some (.val (.builtin "Exception.__init__")):=by kernel_rfl
theorem CH:kitMeta "Exception"=true:=by decide +kernel
theorem Cj:Manifest.isStub "Exception"=false:=by decide +kernel
theorem Fh{prog:Q0}{w:World}{A:Around}{E:Value->Shared->Prop}{s:Shared}{pl:Su Bool}{Q:Value×List Value->Shared->Prop}(h:Q (.builtin "Exception.__init__",[]) {s with toks:=s.toks+1}):
  N5 (M' prog w) A (UI (.type "Exception") "__init__" pl) Q E s:=by
 have L0:P2 (M' prog w) s.heap (Sx (.type "Exception")) (.type "type"):=Rf (kitMeta_of CH);have LO:P2 (M' prog w) s.heap (WX (.type "Exception")) none:=Rf (by unfold WX;dsimp only;rw[Cj];rfl)
 have X:Frag.In [] s.heap:=fun a o e=>by injection e
 have hg:PU [] (.type "type") "__getattribute__"=some (some (.builtin "type.__getattribute__")):=type_tga;unfold UI specialOf;refine u' (u' (L0.here ((Rd X hg).here ?_)))
 dsimp only;rw[if_pos canon_tga];refine u' (Ob (Q:=fun v s'=>Q (v,[]) s') (cls_open X LO L0 hg (looks_hook X (r:=none) (by rfl)) (by show subIn [] _ _=_;rfl) Dx ?_) (fun _ _ z=>J' z) fun _ _ z=>z)
 exact J' (by show N5 _ _ (handedOut _) _ _ _;rw[handedOut_of (by decide +kernel)];exact J' h)
noncomputable abbrev qZ:Manifest.Signature:=⟨.positional,"*","Exception",.self,[⟨"args",.varPos,false⟩]⟩
theorem yo{M:UK}{A:Around}{E:Value->Shared->Prop}{s:Shared}{x C:Addr}{cd:ClassData}{v:Value}{Q:Unit->Shared->Prop}(L4:P2 M s.heap (Rn (.ref x) (.type "Exception")) true)(LT:P2 M s.heap (Sx (.ref x)) (.ref C))(LC:P2 M s.heap (W0 C) cd)(h:Q () s):N5 M A (W2 "Exception.__init__" ⟨[.ref x,v],[]⟩) Q E s:=by
 have F:=Sa;simp only[W2,F.initKind,F.initSplit,F.initRow];refine u' (L4.here ?_)
 simp only[Bool.not_true,UU,if_false];show N5 M A (WL "*" true qZ (some (.ref x))>>=fun a=>WL "Exception" false qZ (some (.ref x))>>=fun b=>(XB qZ a b 1 []).onRaise _) Q E s
 refine u' ?_
 show N5 M A (Sx (.ref x)>>=fun t=>typeNameWhole t>>=fun tp=>pure tp) _ E s
 refine u' (LT.here (u' ?_))
 show N5 M A (W0 C>>=fun d=>pure d.name.toString) _ E s
 refine u' (LC.here (J' (J' (u' ?_))))
 show N5 M A (pure "Exception") _ E s
 refine J' (wpAny_onRaise ?_)
 rw[show XB qZ cd.name.toString "Exception" 1 []=pure () from check_star_args _ _ _ _ _ _]
 exact J' h
theorem D5(a v:Value):WJ.«BaseException.__init__» ⟨[a,v],[]⟩=(newTuple [v]>>=fun t=>bexcPut a 0 t>>=fun _=>ret .none):=by kernel_rfl
theorem B0 {prog:Q0} {w:World} {A:Around} {E:Value->Shared->Prop} {s:Shared} {x:Addr} {v:Value} {o:Obj} {vs:Array Value} {Q:Value->Shared->Prop} {C:Addr} {cd:ClassData} (L4:P2 (M' prog w) s.heap (Rn (.ref x) (.type "Exception")) true) (LT:P2 (M' prog w) s.heap (Sx (.ref x)) (.ref C)) (LC:P2 (M' prog w) s.heap (W0 C) cd) (ho:s.heap.get? x=some o) (hd:o.data = .fields vs) (h0:0<vs.size)
  (hQ : ∀h',h'.get? x=some {o with data := .fields (vs.setIfInBounds 0 (.ref s.heap.objs.size))}->(∀b y,b≠x->s.heap.get? b=some y->h'.get? b=some y)->Q .none {s with heap:=h'}) :
  N5 (M' prog w) A (call (.builtin "Exception.__init__") [.ref x,v]) Q E s:=by
 have F:=Sa;refine T1 (Q3 F.init.plain F.initEntry (yo L4 LT LC ?_))
 rw[D5];refine u' (X1 ?_ (by show 1<=Qv;decide))
 have Vg:(s.heap.push {cls := .type "tuple",data := .seq [v].toArray}).get? x=some o:=Pb _ ho;obtain⟨y,hy⟩ : ∃y,vs[0]?=some y:=⟨vs[0],by simp[h0]⟩
 unfold bexcPut;have hd':=Q8 hd (·.setIfInBounds 0 (Value.ref s.heap.objs.size));have fin:Q .none {s with heap:=(s.heap.push {cls := .type "tuple",data := .seq [v].toArray}).update x fun o=>o.mapFields (·.setIfInBounds 0 (.ref s.heap.objs.size))}:=by
  refine hQ _ ?_ fun b z hb e=>(Qw _ _ (PF hb)).trans (Pb _ e)
  rw[Qb _ Vg (QE hd')];obtain⟨cl,dc,dt,sl⟩:=o;simp only at hd;subst hd;rfl
 refine u' (u' (PW Vg hd hy (u' (TY Vg hd h0 ?_))))
 cases y<;>first | exact J' (J' fin) | exact u' (wpAny_letGo (J' fin)) | exact wpAny_letGo (J' fin)
end
end Mine
end
section
open PyProof Builtin Builtin.ObjectAttr
namespace Mine
variable{c:Cx}{ρ:aq}{Γ:ag}{T:Tab}{O:aL}{m:Md}
section
theorem Ks(P:Of):X' (KK P) 84 (.type "Exception")=some true:=by kernel_rfl
theorem J9(P:Of): ∃cd,clsIn (KK P) 84=some cd:=by
 obtain⟨cd,h,_⟩:=Vy (Dh P);exact⟨cd,h⟩
theorem ye{n:Nat}{ex:Exc}{aa:Addr}{w:Value}{τ θ s}(hg:i8 Γ n=some ex)(Pa:θ[n]?=some aa)(S:SR c τ θ ρ Γ s):N5 (M' PG c.w) c.A (call (.builtin "Exception.__init__") [.ref aa,w]) (fun v s'=>v = .none/\SR c τ θ ρ Γ s') bh s:=by
 obtain⟨C,fs,ctx,T'⟩:=ex;have hg:bq Γ n=some (.exc C fs ctx T'):=dS hg;obtain⟨σ,K,ha,od,mA,vs,h1,h2',h3,⟨h4,h4'⟩,h5,h6,h7,h8,h9⟩:=S.c4 Pa hg;cases (show C=84 from h4')
 obtain⟨cd,hcd⟩:=J9 c.w.params;have LT:P2 (M' PG c.w) s.heap (Sx (.ref aa)) (.ref 84):=(T6 h1).andThen .now;refine B0 (LT.andThen (R7 S.K (Ks _))) LT (R8 S.K hcd) (v:=w) h1 rfl (ba h6) fun h' ho' keep => ?_
 have hne : ∀d,od=some d->d≠aa:=fun d e=>q7 ha (h2' _ e).2
 have K':=K.change S.wf (m' := .exc 84 fs ctx T') Pa ha (h':=h') (fun b o hb _ e=>keep b o hb e) (fun b e=>by
  obtain⟨o,ho⟩:=K.there e;exact⟨o,keep b o (fun q=>by rw[q,ha] at e;exact Own.noConfusion (j' e)) ho⟩) ⟨od,mA,_,ho',fun d e=>⟨(h2' d e).1.at fun o e'=>keep d o (hne d e) e',(bu (hne d e)).trans (h2' d e).2⟩,h3,⟨h4,rfl⟩,h5,by simpa using h6,fun q=>by rw[OR (by decide)];exact h7 q,fun q=>by rw[OR (by decide)];exact h8 q,fun x hx=>h9 x (by rw[OR (by decide)] at hx;exact hx)⟩
 rw[nO (fh hg)] at K';exact⟨rfl,S.wf,S.rl,⟨_,K'⟩,S.base,S.gens,S.os⟩
theorem Cc{a:Ex}{es pa p}{x:PySem.Str}{p':W7}(hf:a.back T c.ns = .Name x p')(hg:GV (KK c.w.params) x (.type "Exception"))(hkd:c.env.kindOf x=some .globalImplicit)(h2:i7 c T O m es)(hlen:es.len<30)(hline:((aK pa).endLine==(aK p).line)=true):SE c T O m (.init a 0 es pa p):=fun ρ Γ => .of fun τ θ s hn S=>
 lZ (by rw[hf];rfl) (h2 ρ Γ (aK p)).1 (by rw[fx];exact hlen) hline (gb (congrArg (fun x=>Q7 x c.env) hf) (kN (v := .type "Exception") S hg hkd fun pl=>Fh
  (kA (P:=fun h=>True) (fC (h2 ρ Γ (aK p)).1) (fun h X=>⟨.machine,.inr (.inl rfl),Rf rfl⟩) ((h2 ρ Γ _).2.go hn (S.tok _) (.refl _ _) fun us Pn Pu O5 vs PJ PA PI m₂ PX OW Px O6=>
   RG.bt (RG.kT Px) (rfl:dv (O m.b) vs PA 0=_) fun w hw n e=>RG.bt n e fun ex he _ e'=>by
    obtain⟨n,q1,he⟩:=ai he;obtain⟨d,q2,he⟩:=ai he;rw[gB hw,V.jm q1] at PX;obtain⟨u,w,rfl,⟨aa,rfl,Pa⟩,r3⟩:=i6 PX;exact⟨trivial,fA (Ob (ye he Pa OW) (fun v s' h=>h.1▸ .fin PI (R:=RV) (b := .d .none) rfl h.2 (O6.trans (congrArg (RG.res PJ) e'))) fun _ _ x=>x)⟩))))
noncomputable def Cx.mh(c:Cx)(A':Around):Cx:={c with A:=A'}
theorem yn{A':Around}{τ θ s}(S:SR c τ θ ρ Γ s)(hd:A'.depth<=301+3 * c.lv)(hu:A'.units<=10+10 * c.lv)(hf:A'.frames=c.A.frames):SR (c.mh A') τ θ ρ Γ s:=by
 obtain⟨σ,K⟩:=S.own;have W:=S.wf;exact⟨⟨W.base,W.kind,W.globals,W.builtins,W.eL,W.cX,W.vars,W.once,W.n7,W.fK,W.dW,W.above,hd,hu,by
  obtain⟨l,h1,h2⟩:=W.frames;exact⟨l,by show A'.frames=_;rw[hf];exact h1,h2⟩⟩,S.rl,⟨σ,⟨K.at_,K.bp,K.fr,K.loc,K.cell,K.held,K.len,K.inj,K.eo,K.d6⟩⟩,S.base,S.gens,S.os⟩
theorem vY{A':Around}{τ θ s}(W:c.WF)(S:SR (c.mh A') τ θ ρ Γ s):SR c τ θ ρ Γ s:=by
 obtain⟨σ,K⟩:=S.own;exact⟨W,S.rl,⟨σ,⟨K.at_,K.bp,K.fr,K.loc,K.cell,K.held,K.len,K.inj,K.eo,K.d6⟩⟩,S.base,S.gens,S.os⟩
def sW(c:Cx):Prop:=c.A.depth+2<=301+3 * c.lv/\c.A.units+7<=10+10 * c.lv
theorem qz{τ θ s}(S:SR c τ θ ρ Γ s)(R:sW c)(a:Addr)(us:List Value):SR (c.mh (c.A.under (.builtin "type.__call__" ⟨.ref a::us,[]⟩))) τ θ ρ Γ s:=by
 have h1:(c.A.under (.builtin "type.__call__" ⟨.ref a::us,[]⟩)).depth=c.A.depth+1:=rfl;have h2:(c.A.under (.builtin "type.__call__" ⟨.ref a::us,[]⟩)).units=c.A.units+1:=by
  show c.A.units+Code.cUnits _=_
  rfl
 have h3:(c.A.under (.builtin "type.__call__" ⟨.ref a::us,[]⟩)).frames=c.A.frames:=rfl;exact yn S (by rw[h1];have:=R.1;exact Oy ‹_›) (by rw[h2];have:=R.2;exact ba this) h3
structure pT(w:World)(T:Tab)(a k:Nat):Prop where
 keep:keepIn (KK w.params) (.ref a)=true
 makes:makesIn (KK w.params) a=true
 init:PU (KK w.params) (.ref a) "__init__"=some (some (.ref (T.fa.getD k 0)))
 fn:T5 (KK w.params) (.ref (T.fa.getD k 0))=some (.type "function")
 cls:sb a
theorem Bj{s:Shared}{τ θ}(S:SR c τ θ ρ Γ s){a:Nat}(ha:sb a):SR c τ (θ++[s.heap.objs.size+1]) ρ (Γ++[some (.inst a [])]) {s with heap:=(s.heap.push emptyDict).push (U2 a s.heap.objs.size)}:=by
 obtain⟨σ,K⟩:=S.own;have k : ∀b o,s.heap.get? b=some o->((s.heap.push emptyDict).push (U2 a s.heap.objs.size)).get? b=some o:=fun b o e=>cA _ _ _ (cA _ _ _ e)
 have hx:((s.heap.push emptyDict).push (U2 a s.heap.objs.size)).get? (s.heap.objs.size+1)=some (U2 a s.heap.objs.size):=by heap_get
 have hd:((s.heap.push emptyDict).push (U2 a s.heap.objs.size)).get? s.heap.objs.size=some emptyDict:=cA _ _ _ (Pw _ rfl);have n1:s.heap.get? s.heap.objs.size=none:=dP _;have n2:s.heap.get? (s.heap.objs.size+1)=none:=RP (Rj _);have hne:s.heap.objs.size+1≠s.heap.objs.size:=VB _;refine⟨S.wf,S.rl,⟨_,K.new (σ':=upd (upd σ (s.heap.objs.size+1) (.mu (.inst a []))) s.heap.objs.size (.sub (s.heap.objs.size+1))) n2 k (fun b q => ?_) (by rw[bu hne,cM]) (fun b o q e => ?_) ⟨s.heap.objs.size,fun _=>none,hx,T7 ⟨_,#[],_,hd,rfl,fun e he=>absurd he (by simp),fun _=>rfl⟩,cM,⟨fun _ _=>rfl,ha⟩,fun i v e=>by injection e⟩⟩,S.base,S.gens,S.os⟩
 ·rw[bu (by rintro rfl;exact q n1),bu (by rintro rfl;exact q n2)]
 ·by_cases h1:b=s.heap.objs.size
  ·subst h1;injection (cM ..).symm.trans e with e;subst e;exact .inr ⟨_,rfl,_,hd⟩
  ·rw[bu h1] at e
   by_cases h2:b=s.heap.objs.size+1
   ·exact .inl h2
   ·rw[bu h2,K.fresh q] at e;injection e
theorem new_exc{s s':Shared}{τ θ}{e:Addr}{rest:List Value}(S:SR c τ θ ρ Γ s)(hm:Heap.MadeExcOf s.heap s'.heap e (.ref 84) rest)(hs:s'={s with heap:=s'.heap}):SR c τ (θ++[e]) ρ (Γ++[some (.exc 84 [] false false)]) s':=by
 obtain⟨σ,K⟩:=S.own;obtain⟨t,h1,h2,h3⟩:=hm.there;rw[hs];exact⟨S.wf,S.rl,⟨_,K.Dz hm.new hm.keeps ⟨none,fun _=>none,_,h1,(fun d e=>by injection e),fun _ _=>rfl,⟨fun _ _=>rfl,rfl⟩,(fun i v e=>by injection e),by simp,fun _=>rfl,(fun e=>by injection e),fun x hx hn=>by simp at hx;exact absurd hx.symm hn⟩⟩,S.base,S.gens,S.os⟩
end
section
theorem Kb(P:Of):(KK P).lookup 84=some (Eo P):=by kernel_rfl
theorem JJ(P:Of):(KK P).lookup 83=some (FY P):=by kernel_rfl
theorem Dr(P:Of): ∃nm q bs hdct sn sub ab col dd k0 k1 k2 k3 k5,Eo P=excClassObj nm q 84 83 bs [.type "Exception",.type "BaseException",.type "object"] hdct sn sub ab col dd k0 k1 k2 k3 k5 "Exception.__new__":=⟨_,_,_,_,_,_,_,_,_,_,_,_,_,_,rfl⟩
theorem yC(P:Of): ∃es ep,(FY P).data = .dict es ep/\StrKeys es/\nsFind es "__init__"=some (.ref 81):=by
 refine⟨_,_,rfl,?_,by kernel_rfl⟩
 intro e he;obtain⟨q,_,rfl⟩:=Q2.mp (List.mem_toArray.mp he);exact⟨_,_,rfl⟩
theorem JK{P:Of}{h:Po}(X:(KK P).In h): ∃mN,h.Ns 83 mN/\mN "__init__"=some (.ref 81):=by
 obtain⟨es,ep,h1,h2,h3⟩:=yC P;exact⟨fun x=>nsFind es x,⟨_,es,ep,X _ _ (JJ P),h1,h2,fun _=>rfl⟩,h3⟩
theorem Cb{w:World}(hF:gJ w T){k:Nat}(hk:k<T.fa.length){h:Po}(X:(KK w.params).In h){t:Value}(ht:T5 (KK w.params) (.ref (T.fa.getD k 0))=some t): ∃o,h.get? (T.fa.getD k 0)=some o/\o.cls=t:=by
 obtain⟨o,fd,hd,ho⟩:=hF k hk;refine⟨o,ho h X,?_⟩
 unfold T5 at ht;dsimp only at ht;cases q:(KK w.params).lookup (T.fa.getD k 0) with
 |none=>rw[q] at ht;cases ht
 |some o'=>
  have:=X _ _ q;rw[ho h X] at this;cases this;rw[q] at ht;cases ht;rfl
structure sq(w:World)(T:Tab)(a k:Nat):Prop where
 keep:keepIn (KK w.params) (.ref a)=true
 cls:a=84
 init:T.fa.getD k 0=81
 fn:T5 (KK w.params) (.ref (T.fa.getD k 0))=some (.type "function")
theorem sM{r:RG}(h:r.vp=some Γ):r = .ok (.d .none) Γ:=by
 cases r with
 |ok v G=>obtain⟨h1,rfl⟩:=bF h;rw[m5 h1]
 |_=>exact aE h
section
variable{QY:ag}{rg:RG}{τ Pu:aF}{θ O5:aX}{Pn:Shared}{r0:Res V}{a k n:Nat}{vs:List V}{us:List Value}
theorem tI{A':Around}{x:Addr}{v:Value}{s':Shared}(OW:SR c Pu O5 ρ Γ Pn)(l:Lq τ θ Pu O5)(e:r0 = .ok (.loc Γ.length) ρ QY)(hr:rg = .ok (.d .none) QY)(z:QP (c.mh A') Pu (O5++[x]) RV (rg.res ρ).Q v s'):v = .none/\QP c τ θ RV r0.Q (.ref x) s':=by
 subst hr;obtain⟨Ow,OT,d,O3,Γ',l1,l2,r1,S',q⟩:=z;obtain⟨rfl,rfl,rfl⟩:=Res.uL q;exact⟨r1,.fin (l.trans ⟨l1,(Lt.app _ _).trans l2⟩) (R:=RV) (b := .loc Γ.length) ⟨_,rfl,l2 _ _ (by rw[<-OW.th];simp)⟩ (vY OW.wf S') e⟩
theorem t6{cc:Cx}{v:Value}{s':Shared}{P:Prop}(hr:rg = .ok (.d .none) QY)(z:XP cc Pu O5 (rg.res ρ).X v s'):P:=by
 subst hr;obtain⟨_,_,_,_,_,_,_,_,_,_,_,_,q⟩:=z;exact nomatch q
variable(hO:eA c.w T.fa O n)(hl:c.lv<=n)(hR:sW c)(hm:m.b=true->c.A.handled=none)(S:SR c Pu O5 ρ Γ Pn)(r:bT Pu O5 vs us)(l:Lq τ θ Pu O5)(e:r0 = .ok (.loc Γ.length) ρ QY)
include hO hl hR hm S r l e
theorem tP{x:Addr}:bT Pu (O5++[x]) (.loc Γ.length::vs) (.ref x::us):=⟨⟨_,rfl,by rw[<-S.th];simp⟩,r.mono (.refl _) (.app _ _)⟩
theorem Hx(N:pT c.w T a k)(hr:O m.b k (.loc Γ.length::vs) (Γ++[some (.inst a [])]) = .ok (.d .none) QY):N5 (M' PG c.w) c.A (call (.ref a) us []) (QP c τ θ RV r0.Q) (XP c τ θ r0.X) Pn:=by
 obtain⟨hh,g,d,t,os⟩:=Pn;refine T1 (make_core (makes_of S.K N.makes) (Rd S.K N.init) (fun self=>bind_fn S.K self N.fn) (.inl rfl) ?_)
 refine U0 (hO (c.mh (c.A.under (.builtin "type.__call__" ⟨.ref a::us,[]⟩))) rfl hl m.b k (.loc Γ.length::vs) ρ _ hm (by rw[hr];nofun) Pu (O5++[hh.objs.size+1]) _ (.ref (hh.objs.size+1)::us) (qz (Bj S N.cls) hR a us) (tP hO hl hR hm S r l e)) fun r s' z => ?_
 cases r with
 |error e=>exact t6 hr z
 |ok f=>
  cases f with
  |ret v=>exact tI S l e hr z
  |_=>exact z.elim
theorem HN(hF:gJ c.w T)(hk:k<T.fa.length)(N:sq c.w T a k)(qf:ay vs.length=true)(hr:O m.b k (.loc Γ.length::vs) (Γ++[some (.exc a [] false false)]) = .ok (.d .none) QY):N5 (M' PG c.w) c.A (call (.ref a) us []) (QP c τ θ RV r0.Q) (XP c τ θ r0.X) Pn:=by
 obtain⟨hh,g,d,t,os⟩:=Pn;have X:=S.K;cases N.cls;obtain⟨_,_,_,_,_,_,_,_,_,_,_,_,_,_,h84⟩:=Dr c.w.params;obtain⟨mN,hn83,hi83⟩:=JK X;obtain⟨oI,hfI,hfc⟩:=Cb hF hk X N.fn;refine wpAny_call_exc_init Sa (h84▸X _ _ (Kb _)) hn83 (by rw[hi83,N.init]) hfI hfc (fun h' x hm' => ?_) (by rw[<-r.length];exact cN qf)
 have QQ:=new_exc S hm' (s':=⟨h',g,d,t,os⟩) rfl;exact Ob (hO.wp (c:=c.mh (c.A.under (.builtin "type.__call__" ⟨.ref 84::us,[]⟩))) rfl hl m.b k (.loc Γ.length::vs) ρ _ hm (by rw[hr];nofun) Pu (O5++[x]) _ (.ref x::us) (qz QQ hR 84 us) (tP hO hl hR hm S r l e)) (fun v s' z=>tI S l e hr z) fun e' s' z=>t6 hr z
end
theorem Hj {C:Nat} {f es p a k x n} (hC:T.ca[C]?=some (a,x,k)) (hf : ∃x p',f.back T c.ns = .Name x p') (h1:SE c T O m f) (h2:i7 c T O m es) (hO:eA c.w T.fa O n) (hl:c.lv<=n) (hF:gJ c.w T) (hk:k<T.fa.length) (hR:sW c) (hm:m.b=true->c.A.handled=none)
  (hN:x=false->pT c.w T a k) (hE:x=true->sq c.w T a k):SE c T O m (.new C f es p):=fun ρ Γ => .of fun τ θ s hn S=>bt hn rfl fun q hq UC Ws=>by
 cases (j' (hC.symm.trans hq))
 refine Call_ ((h1 ρ Γ).go UC S (.refl _ _) (fun u OU Oo OC d Od Oj Oz _ OL Ot n₁ OA => ?_) Ws) (by obtain⟨x',p',ef⟩:=hf;rw[ef];rfl)
 refine kA (P:=fun h=>(KK c.w.params).In h/\d = .d (.val (.ref a))) (fC (h2 Od Oj (aK p)).1) (fun h ⟨X,e⟩ => ?_) ((h2 Od Oj _).2.go n₁ Ot Oz (fun us Pn Pu O5 vs PJ PA PI m₂ PX OW Px O6=>bt Px O6 fun b hb RI Qt=>eE RI Qt fun qa Tt Si=>bt Tt Si fun QY hr _ TQ => ?_) OA)
 ·subst e
  subst OL;refine keeps_K ?_ h X
  cases x with | false=>exact(hN rfl).keep | true=>exact(hE rfl).keep
 ·obtain⟨qa,qf⟩:=Ol.mp qa
  have hd:=N2 qa▸V.gS hb;rw[hd] at OL;refine⟨⟨OW.K,hd⟩,(show u=_ from OL)▸ ?_⟩
  cases x with
  |false=>exact Hx hO hl hR hm OW PX PI TQ (hN rfl) (sM hr)
  |true=>exact HN hO hl hR hm OW PX PI TQ hF hk (hE rfl) qf (sM hr)
end
end Mine
end
section
open PyProof
namespace Mine
noncomputable def frees(cells:List (Str×Addr)):List (Str×NameKind)->List (Str×Addr)->List (Str×Addr)
 | [],acc=>acc
 |(n,k)::r,acc=>if k == .free then frees cells r ((n,(cells.lookup n).getD 0)::acc) else frees cells r acc
theorem iz{env:R0}: ∀(names:List (Str×NameKind)) (acc:List (Str×Addr)),(∀x∈names,x.2 = .free->∃a,env.cells.lookup x.1=some a)->
  (forIn names acc (fun x cs=>(match x with | (name,kind)=>if kind == .free then(do let a<-cellOf env name;pure (Pp ((name,a)::cs))) else pure (Pp cs):Su (ForInStep (List (Str×Addr))))))=pure (frees env.cells names acc)
 | [],acc,_=>rfl
 |(n,k)::r,acc,h=>by
  rw[SM];dsimp only;rw[frees];by_cases hk:k = .free
  ·subst hk
   obtain⟨a,ha⟩:=h (n,.free) UO rfl;have hc:cellOf env n=pure a:=by unfold cellOf;dsimp only at ha;rw[ha]
   rw[if_pos (by rfl),if_pos (by rfl),hc]
   simp only[pure_bind];rw[iz r _ fun x hx=>h x (QN _ hx)]
   dsimp only at ha;rw[ha];rfl
  ·have hb:(k==O0)=false:=by simpa using hk
   rw[hb,if_neg (by simp),if_neg (by simp)]
   simp only[pure_bind];exact iz r acc fun x hx=>h x (QN _ hx)
theorem qO{scope:QC}{env:R0}(h : ∀x∈scope.names,x.2 = .free->∃a,env.cells.lookup x.1=some a):We scope env=pure (frees env.cells scope.names []):=by
 have:=iz scope.names [] h;unfold We;dsimp only;rw[<-bind_pure (pure (frees env.cells scope.names []):Su _),<-this]
set_option tactic.hygienic true in
theorem k7{cells:List (Str×Addr)}{n:Str}{a:Addr}: ∀{names:List (Str×NameKind)} {acc:List (Str×Addr)},(n,a)∈frees cells names acc->(n,a)∈acc\/((n,O0)∈names/\a=(cells.lookup n).getD 0)
 | [],acc,h => .inl h
 |(m,k)::r,acc,h=>by
  rw[frees] at h;split at h
  ·rename_i hk
   have hk':k = .free:=by simpa using hk
   subst hk';rcases k7 h with h | ⟨h,e⟩
   ·rcases N7.mp h with h | h
    ·cases h;exact .inr ⟨.head _,rfl⟩
    ·exact .inl h
   ·exact .inr ⟨.tail _ h,e⟩
  ·rcases k7 h with h | ⟨h,e⟩
   ·exact .inl h
   ·exact .inr ⟨.tail _ h,e⟩
set_option tactic.hygienic true in
theorem lr{cells:List (Str×Addr)}{n:Str}{a:Addr}(ha:(cells.lookup n).getD 0=a): ∀{names:List (Str×NameKind)} {acc:List (Str×Addr)},((n,O0)∈names\/acc.lookup n=some a)->(frees cells names acc).lookup n=some a
 | [],acc,h=>h.elim (fun h=>by cases h) id
 |(m,k)::r,acc,h=>by
  rw[frees];split
  ·rename_i hk
   refine lr ha ?_
   by_cases q:n=m
   ·subst q;right;simp[ha]
   ·rcases h with h | h
    ·rcases N7.mp h with h | h
     ·cases h;exact absurd rfl q
     ·exact .inl h
    ·right;rw[ON,show(n==m)=false by simpa using q];exact h
  ·rename_i hk
   refine lr ha (h.imp_left fun h => ?_)
   rcases N7.mp h with h | h
   ·cases h;exact absurd rfl hk
   ·exact h
theorem gc : ∀(names:List (Str×NameKind)) (n:Nat) (acc:List (Str×Addr)),PD n names acc=PD n names []++acc
 | [],n,acc=>rfl
 |(x,k)::r,n,acc=>by
  simp only[PD];split
  ·rw[gc r (n+1) ((x,n)::acc),gc r (n+1) [(x,n)]];simp
  ·exact gc r n acc
set_option tactic.hygienic true in
theorem gX{x:Str}: ∀{names:List (Str×NameKind)} {n:Nat} {acc:List (Str×Addr)},(∀p∈names,p.1=x->p.2≠ .cell)->(PD n names acc).lookup x=acc.lookup x
 | [],n,acc,h=>rfl
 |(y,k)::r,n,acc,h=>by
  rw[PD];have hr : ∀p∈r,p.1=x->p.2≠ .cell:=fun p hp=>h p (.tail _ hp)
  split
  ·rename_i hk
   have hk':k = .cell:=by simpa using hk
   subst hk';have q:x≠y:=fun e=>h (y,.cell) (.head _) e.symm rfl
   rw[gX hr,ON,show(x==y)=false by simpa using q]
  ·exact gX hr
theorem oy{α:Type}{x:Str}: ∀{l r:List (Str×α)},(l++r).lookup x=(l.lookup x).or (r.lookup x)
 | [],r=>by simp
 |(y,a)::l,r=>by
  simp only[QG,ON];split
  ·rfl
  ·exact oy
theorem tf {M:UK} {A:Around} {E:Value->Shared->Prop} {s:Shared} {scope:QC} {cl:List (Str×Addr)} {env:R0} {Q:R0->Shared->Prop}
  (hQ:Q {scope,locals:=s.heap.objs.size,globals:=env.globals,cells:=PD (s.heap.objs.size+1) scope.names cl,qual:=env.qual,func:=none,code:=env.code,frame:=env.frame,builtins:=env.builtins} {s with heap:=Tb (s.heap.push {cls := .type "dict",data := .dict #[]}) scope.names}) :
  N5 M A (T3 scope env.globals cl [] env.qual none .none (some env)) Q E s:=by
 simp only[T3,Option.isSome_some,if_true];refine u' (wpAny_alloc ?_)
 refine u' (wpAny_layCells _ (fun name kind cells=>by cases hkc:kind==Pg<;>simp[hkc]) _ _ _ _ ?_)
 rw[show({s with heap:=s.heap.push {cls := .type "dict",data := .dict #[]}}:Shared).heap.objs.size=s.heap.objs.size+1 from Q4 ..]
 exact u' (by rw[List.forIn_nil];exact J' (J' hQ))
theorem mJ{env:R0}{x:Str}: ∀{names:List (Str×NameKind)},(names.map fun(n,k)=>if (k==O0&&env.scope.kind == .function&&env.kindOf n==some .cell) then(n,Pg) else(n,k)).lookup x=(names.lookup x).map fun k=>if (k==O0&&env.scope.kind == .function&&env.kindOf x==some .cell) then Pg else k
 | []=>rfl
 |(n,k)::r=>by
  simp only[Oa];by_cases q:x=n
  ·subst q
   have e:((if (k==O0&&env.scope.kind == .function&&env.kindOf x==some .cell)=true then(x,Pg) else(x,k)):Str×NameKind)=(x,if (k==O0&&env.scope.kind == .function&&env.kindOf x==some .cell)=true then Pg else k):=by split<;>rfl
   rw[e];simp only[ON,beq_self_eq_true,OD]
  ·have qb:(x==n)=false:=by simpa using q
   have e:((if (k==O0&&env.scope.kind == .function&&env.kindOf n==some .cell)=true then(n,Pg) else(n,k)):Str×NameKind).1=n:=by split<;>rfl
   rw[ON,ON,e,qb];exact mJ
variable{c:Cx}{ρ:aq}{Γ:ag}{T:Tab}{O:aL}{m:Md}
section
abbrev jy(c:Cx)(T:Tab)(O:aL)(m:Md)(ts:bY):Prop := ∀ρ Γ,Sd c RB (forIn (ts.back T c.ns) true fun jf r=>if r=true then do let ok<-Tc jf c.env (Q7 jf c.env);pure (Pp ok) else pure (Pp r)) (ts.bL O m T ρ Γ) ρ Γ
theorem mL{env:R0}: ∀l:List PySem.Expr,(forIn l false fun jf r=>if r=true then(do let ok<-Tc jf env (Q7 jf env);pure (Pp ok):Su (ForInStep Bool)) else pure (Pp r))=pure false
 | []=>rfl
 |_::r=>by rw[SM];simp only[UU,if_false,pure_bind];exact mL r
theorem Gm:jy c T O m .nil:=fun ρ Γ => .of fun τ θ s hn S=>J' (.fin (.refl _ _) (R:=RB) (b:=true) rfl S rfl)
theorem CM{t ts}(h1:iZ c T O m t)(h2:jy c T O m ts):jy c T O m (.cons t ts):=fun ρ Γ => .of fun τ θ s hn S=>by
 refine gb (SM _ (t.back T c.ns) (ts.back T c.ns) true) (u' ?_)
 rw[if_pos rfl];refine u' ((h1 ρ Γ).go hn S (.refl _ _) fun b OU Oo OC d Od Oj Oz _ OL Ot n₁ OA=>J' ?_)
 subst OL;cases b with
 |true=>exact(h2 Od Oj).last n₁ Ot Oz OA
 |false=>exact gb (mL _) (J' (.fin Oz (R:=RB) (b:=false) rfl Ot OA))
end
section
variable{c:Cx}{ρ:aq}{Γ:ag}{T:Tab}{O:aL}{m:Md}{sc:QC}{locs:List Str}{aA:List Nat}
structure de(c:Cx)(sc:QC)(locs:List Str)(aA:List Nat):Prop where
 kind:sc.kind = .function
 names : ∀x∈sc.names,x.2 = .local->sc.names.lookup x.1=some .local
 AS : ∀x∈sc.names,(x.1==("__debug__":Str))=false/\(x.1==("__classdict__":Str))=false
 AJ : ∀x∈locs,sc.names.lookup x=some .local\/sc.names.lookup x=some .cell
 vA : ∀i∈aA,∃x,c.ns[i]?=some x/\sc.names.lookup x=some .free/\c.env.kindOf x=some .cell/\∀p∈sc.names,p.1=x->p.2≠ .cell
 AH : ∀p∈sc.names,p.2 = .free->∃i∈aA,c.ns[i]?=some p.1
 once:(inner c.ns locs aA).Nodup
noncomputable abbrev cY(c:Cx)(sc:QC)(C:Addr):R0:={scope:=relabel sc c.env,locals:=C,globals:=c.env.globals,cells:=PD (C+1) sc.names (frees c.env.cells sc.names []),qual:=c.env.qual,func:=none,code:=c.env.code,frame:=c.env.frame,builtins:=c.env.builtins}
noncomputable abbrev Sj(ρ:aq)(locs:List Str)(aA:List Nat):aq:=O1 locs.length none++aA.map fun i=>(ρ[i]?).join
open Classical in
noncomputable def Cx.comp(c:Cx)(σ:Addr->Option Own)(h:Po)(mv:Str->Option Value)(env:R0)(ns:List Str):Cx:=
 {c with env:=env,ns:=ns,held:=fun a=>if (∃x,env.cells.lookup x=some a) then none else dT c σ h mv a}
open Classical in
theorem vM{σ:Addr->Option Own}{h:Po}{mv:Str->Option Value}{env:R0}{ns:List Str}{a:Addr}{o:Own}(e:(c.comp σ h mv env ns).held a=some o):dT c σ h mv a=some o/\¬∃x,env.cells.lookup x=some a:=by
 have e:(if (∃x,env.cells.lookup x=some a) then none else dT c σ h mv a)=some o:=e
 by_cases q : ∃x,env.cells.lookup x=some a
 ·rw[if_pos q] at e;exact nomatch e
 ·rw[if_neg q] at e;exact⟨e,q⟩
open Classical in
theorem j9{σ:Addr->Option Own}{h:Po}{mv:Str->Option Value}{env:R0}{ns:List Str}{a:Addr}{o:Own}(n : ¬∃x,env.cells.lookup x=some a)(e:dT c σ h mv a=some o):(c.comp σ h mv env ns).held a=some o:=(if_neg n).trans e
theorem mD{C:Addr}{x:Str}:(cY c sc C).kindOf x=(sc.names.lookup x).map fun k=>if (k==O0&&c.env.scope.kind == .function&&c.env.kindOf x==some .cell) then Pg else k:=mJ
theorem lookup_mem{α:Type}{x:Str}{k:α}{l:List (Str×α)}(h:l.lookup x=some k):(x,k)∈l:=mem_of_lookup h
theorem DH(E:de c sc locs aA){j i:Nat}{x:Str}(hj:aA[j]?=some i)(hx:(aA.map fun i=>c.ns.getD i "")[j]?=some x):c.ns[i]?=some x/\sc.names.lookup x=some .free/\c.env.kindOf x=some .cell/\∀p∈sc.names,p.1=x->p.2≠ .cell:=by
 obtain⟨y,h1,h2⟩:=E.vA i (Og hj);rw[Oc,hj] at hx;simp only[OD,TC] at hx;rw[iS h1] at hx;subst hx;exact⟨h1,h2⟩
inductive JZ(c:Cx)(σ:Addr->Option Own)(sc:QC)(aA:List Nat)(C:Addr)(Rr:Po)(x:Str)(a:Addr):Prop
 |new (n:C<a) (e:Rr.IsCell a none) (q:(PD (C+1) sc.names []).lookup x=some a)
 |old (i:Nat) (i1:i∈aA) (i2:c.ns[i]?=some x) (k:c.env.kindOf x=some .cell) (e:c.env.cells.lookup x=some a) (q:σ a=some .cl)
section
variable{σ:Addr->Option Own}{τ:aF}{θ:aX}{s:Shared}{mv:Str->Option Value}
noncomputable abbrev A0(s:Shared)(sc:QC):Po:=Tb (s.heap.push {cls := .type "dict",data := .dict #[]}) sc.names
theorem xj(O:OK c σ τ θ ρ Γ s.heap){a:Addr}(n:σ a=none):a≠c.env.locals:=fun q=>by rw[q,O.fr] at n;exact nomatch n
theorem rk:CellsOk (A0 s sc) (s.heap.objs.size+1) (PD (s.heap.objs.size+1) sc.names []):=by
 have:=cellsFrom_ok sc.names (s.heap.push {cls := .type "dict",data := .dict #[]}) (s.heap.objs.size+1) [] ⟨fun _ _ hm=>(nomatch hm),Xe⟩ (by rw[Q4];exact Ox _)
 rw[Q4] at this;exact this
theorem lQ(O:OK c σ τ θ ρ Γ s.heap)(E:de c sc locs aA){x:Str}{a:Addr}(e:(cY c sc s.heap.objs.size).cells.lookup x=some a):JZ c σ sc aA s.heap.objs.size (A0 s sc) x a:=by
 have e':(PD (s.heap.objs.size+1) sc.names (frees c.env.cells sc.names [])).lookup x=some a:=e;rw[gc,oy] at e';cases q:(PD (s.heap.objs.size+1) sc.names []).lookup x with
 |some b=>
  rw[q] at e';obtain rfl:=j' e';obtain⟨h1,h2⟩:=rk.empty _ _ (mem_of_lookup q);exact .new h2 h1 q
 |none=>
  rw[q] at e';rcases k7 (mem_of_lookup e') with h | ⟨h1,h2⟩
  ·exact nomatch h
  ·obtain⟨i,i1,i2⟩:=E.AH _ h1 rfl
   obtain⟨y,y1,y2,y3,y4⟩:=E.vA i i1;obtain rfl:=j' (i2.symm.trans y1);obtain⟨a',a1,a2,a3⟩:=O.cell i x i2 (by rw[y3];exact fun q=>nomatch q)
   rw[a1] at h2;obtain rfl:a=a':=h2;exact .old i i1 i2 y3 a1 a2
inductive MJ(c:Cx)(ρ:aq)(sc:QC)(locs:List Str)(aA:List Nat)(i:Nat)(x:Str):Prop
 |own (h:x∈locs) (q:(Sj ρ locs aA)[i]?=some none)
 |aA (UE:Nat) (h1:c.ns[UE]?=some x) (h2:sc.names.lookup x=some .free) (h3:c.env.kindOf x=some .cell) (h4 : ∀p∈sc.names,p.1=x->p.2≠ .cell) (q:(Sj ρ locs aA)[i]?=some (ρ[UE]?).join)
theorem Gp(E:de c sc locs aA){i:Nat}{x:Str}(hx:(inner c.ns locs aA)[i]?=some x):MJ c ρ sc locs aA i x:=by
 simp only[inner] at hx;by_cases hi:i<locs.length
 ·rw[Pf hi] at hx
  refine .own (Og hx) ?_
  simp only[Sj];rw[Pf (by simpa using hi),List.getElem?_replicate,if_pos hi]
 ·rw[Ov (Pe hi)] at hx
  have hj:i-locs.length<aA.length:=by have:=(N3.mp hx).1;rwa [Oe] at this
  have hq:aA[i-locs.length]?=some aA[i-locs.length]:=N8 hj;obtain⟨y1,y2,y3,y4⟩:=DH E hq hx;refine .aA _ y1 y2 y3 y4 ?_
  simp only[Sj];rw[Ov (by rw[Qc];exact Pe hi),Qc,Oc,hq];rfl
theorem lL(W:c.WF){C:Addr}{x:Str}(h2:sc.names.lookup x=some .free)(h3:c.env.kindOf x=some .cell):(cY c sc C).kindOf x=some .cell:=by
 rw[mD,h2,h3,OD,W.kind];rfl
theorem m8{C:Addr}{x:Str}{k:NameKind}(h:sc.names.lookup x=some k)(n:k = .local\/k = .cell):(cY c sc C).kindOf x=some k:=by
 rw[mD,h];rcases n with rfl | rfl<;>rfl
theorem Gb(W:c.WF)(E:de c sc locs aA){C:Addr}{i:Nat}{x:Str}(hx:(inner c.ns locs aA)[i]?=some x):(cY c sc C).kindOf x=some .local\/(cY c sc C).kindOf x=some .cell:=by
 cases Gp (ρ:=[]) E hx with
 |own h _=>exact(E.AJ x h).imp (fun h=>m8 h (.inl rfl)) fun h=>m8 h (.inr rfl)
 |aA UE _ h2 h3 _ _=>exact .inr (lL W h2 h3)
theorem rh{C:Addr}(E:de c sc locs aA){x:Str}{k:NameKind}(e:(cY c sc C).kindOf x=some k):(x==("__debug__":Str))=false/\(x==("__classdict__":Str))=false:=by
 rw[mD] at e;obtain⟨k',q,_⟩:=aJ e;exact E.AS _ (mem_of_lookup q)
theorem Hl(S:SR c τ θ ρ Γ s)(O:OK c σ τ θ ρ Γ s.heap)(E:de c sc locs aA):(c.comp σ s.heap mv (cY c sc s.heap.objs.size) (inner c.ns locs aA)).WF:=by
 have old : ∀a o,σ a=some o->a<s.heap.objs.size:=fun a o e=>(O.there e).elim fun x hx=>PC hx
 have newC:σ s.heap.objs.size=none:=by cases q:σ s.heap.objs.size with | none=>rfl | some o=>exact absurd (old _ o q) (QM _)
 refine⟨S.wf.base,E.kind,S.wf.globals,S.wf.builtins,fun x k e=>(rh E e).1,fun x k e=>(rh E e).2,fun x hx => ?_,E.once,?_,fun a o e=>mX S.wf (vM e).1,fun x y a h1 h2 => ?_,N0 S.wf.above (Oy (old _ _ O.fr)),S.wf.depth,S.wf.units,?_⟩
 ·obtain⟨i,hi⟩:=Um hx
  exact(Gb S.wf E hi).imp_right .inl
 ·cases q:(c.comp σ s.heap mv (cY c sc s.heap.objs.size) (inner c.ns locs aA)).held s.heap.objs.size with
  |none=>exact q
  |some o=>exact nomatch (nA O newC).symm.trans (vM q).1
 ·cases lQ O E h1 with
  |new n0 _ p=>cases lQ O E h2 with
   |new _ _ q=>exact UY rk.apart (mem_of_lookup p) (mem_of_lookup q)
   |old _ _ _ _ _ q=>exact absurd (old a _ q) (Qn n0)
  |old _ _ _ _ p p'=>cases lQ O E h2 with
   |new n _ q=>exact absurd (old a _ p') (Qn n)
   |old _ _ _ _ q _=>exact S.wf.dW x y a p q
 ·obtain⟨l,h1,h2,h3⟩:=S.wf.frames
  refine⟨l,h1,h2,fun e he => ?_⟩
  obtain⟨k,L,hL,q⟩:=h3 e he;refine⟨k,L,hL,.inr ?_⟩
  obtain⟨m,hm⟩:=oj (mv:=mv) (e:=e) S.wf O q;refine⟨m,j9 (fun⟨x,hx⟩ => ?_) hm⟩
  have no:σ L=some .cl->False:=fun z=>by
   rcases q with rfl | ⟨m',q⟩
   ·exact nomatch z.symm.trans O.fr
   ·exact nomatch z.symm.trans (O.held _ _ q)
  cases lQ O E hx with
  |new n _ _=>
   rcases q with rfl | ⟨m',q⟩
   ·exact Qn n (old _ _ O.fr)
   ·exact Qn n (old _ _ (O.held _ _ q))
  |old _ _ _ _ _ q=>exact no q
theorem AE(S:SR c τ θ ρ Γ s)(O:OK c σ τ θ ρ Γ s.heap)(hmv:s.heap.Ns c.env.locals mv)(E:de c sc locs aA):
  OK (c.comp σ s.heap mv (cY c sc s.heap.objs.size) (inner c.ns locs aA)) (Sn σ s.heap c.env.locals mv (cY c sc s.heap.objs.size)) τ θ (Sj ρ locs aA) Γ (A0 s sc):=by
 have keep : ∀b o,s.heap.get? b=some o->(A0 s sc).get? b=some o:=fun b o e=>TJ _ _ b o (Pb _ e)
 have old : ∀a o,σ a=some o->a<s.heap.objs.size:=fun a o e=>(O.there e).elim fun x hx=>PC hx
 refine z6 (c₁:=c.comp σ s.heap mv (cY c sc s.heap.objs.size) (inner c.ns locs aA)) O hmv rfl keep (fun a o e q=>QM a (q▸old a o e)) ⟨_,(Heap.Ns.new s.heap (.type "dict")).keeps (TJ _ _)⟩ (fun x a e => ?_) (fun mv' hm i x v hx hv hk => ?_) (fun i x hx hk => ?_) (fun a o e=>vM e) S.wf O.len
 ·cases lQ O E e with
  |new n e _=>exact⟨fun o q=>absurd (old a o q) (Qn n),T9 n,_,e⟩
  |old i i1 i2 k e q=>
   obtain⟨v,hv⟩:=O.at_ _ _ q;exact⟨fun o z=>(j' (q.symm.trans z)).symm,PK (old a _ q),v,hv.keeps keep⟩
 ·cases Gp (ρ:=ρ) E hx with
  |own _ q=>exact nomatch q.symm.trans hv
  |aA UE _ h2 h3 _ _=>exact nomatch (lL S.wf h2 h3).symm.trans hk
 ·cases Gp (ρ:=ρ) E hx with
  |own h q=>
   rcases E.AJ x h with h | h
   ·exact absurd (m8 h (.inl rfl)) hk
   ·obtain⟨a,ha⟩:=gE (n:=s.heap.objs.size+1) (acc:=frees c.env.cells sc.names []) (.inl h)
    exact⟨a,ha,fun v hv=>nomatch q.symm.trans hv⟩
  |aA UE h1 h2 h3 h4 q=>
   obtain⟨a,a1,a2,a3⟩:=O.cell UE x h1 (by rw[h3];exact fun q=>nomatch q)
   refine⟨a,?_,fun v hv => ?_⟩
   ·show(PD (s.heap.objs.size+1) sc.names (frees c.env.cells sc.names [])).lookup x=some a
    rw[gX h4];exact lr (by rw[a1];rfl) (.inl (mem_of_lookup h2))
   ·obtain⟨u,u1,u2⟩:=a3 v (Th.mp (j' (q.symm.trans hv)))
    exact⟨u,u1.keeps keep,u2⟩
theorem Fv(S:SR c τ θ ρ Γ s)(O:OK c σ τ θ ρ Γ s.heap)(hmv:s.heap.Ns c.env.locals mv)(E:de c sc locs aA):
  SR (c.comp σ s.heap mv (cY c sc s.heap.objs.size) (inner c.ns locs aA)) τ θ (Sj ρ locs aA) Γ {s with heap:=Tb (s.heap.push {cls := .type "dict",data := .dict #[]}) sc.names}/\
  ∃σ',OK (c.comp σ s.heap mv (cY c sc s.heap.objs.size) (inner c.ns locs aA)) σ' τ θ (Sj ρ locs aA) Γ (Tb (s.heap.push {cls := .type "dict",data := .dict #[]}) sc.names)/\∀a,a<s.heap.objs.size->σ a=none->σ' a=none:=by
 refine⟨⟨Hl S O E,by simp[inner,Sj,Cx.comp],⟨_,AE S O hmv E⟩,S.base,S.gens,S.os⟩,_,AE S O hmv E,fun a ha hn => ?_⟩
 refine(nX (PK ha) (fun⟨x,hx⟩ => ?_) (xj O hn)).trans (by rw[hn])
 cases lQ O E hx with
 |new n _ _=>exact Qn n ha
 |old _ _ _ _ _ q=>exact nomatch hn.symm.trans q
theorem FA {Ow OT} {s':Shared} {O3:aq} {Γ':ag} (S:SR c τ θ ρ Γ s) (O:OK c σ τ θ ρ Γ s.heap) (hmv:s.heap.Ns c.env.locals mv) (E:de c sc locs aA)
  (l:Lq τ θ Ow OT) (S':SR (c.comp σ s.heap mv (cY c sc s.heap.objs.size) (inner c.ns locs aA)) Ow OT O3 Γ' s') (TO : ∀j,locs.length<=j->O3[j]?=(Sj ρ locs aA)[j]?) :
  SR c Ow OT ρ Γ' s'/\∃Yr,OK c Yr Ow OT ρ Γ' s'.heap/\Yr s.heap.objs.size=none:=by
 obtain⟨σ',O'⟩:=S'.own;have old : ∀a o,σ a=some o->a<s.heap.objs.size:=fun a o e=>(O.there e).elim fun x hx=>PC hx
 have nocell : ∀a o,σ a=some o->o≠ .cl->¬∃x,(cY c sc s.heap.objs.size).cells.lookup x=some a:=fun a o e n hz=>by
  obtain⟨x,hx⟩:=hz;cases lQ O E hx with
  |new h _ _=>exact Qn h (old a o e)
  |old _ _ _ _ _ q=>exact n (j' (e.symm.trans q))
 have K:OK c (Rt σ σ' c.env.locals) Ow OT ρ Γ' s'.heap:=by
  refine xI S.wf O hmv l O' rfl (O'.held _ _ (j9 (nocell _ _ O.fr Own.noConfusion) sh)) (fun a e => ?_) (fun a o e=>O'.held _ _ (j9 (nocell a o (O.held a o e) (lO S.wf e).1) (pS (oM S.wf e) e (O.held a o e) (lO S.wf e).1))) O'.len
  by_cases q : ∃x,(cY c sc s.heap.objs.size).cells.lookup x=some a
  ·obtain⟨x,hx⟩:=q
   cases lQ O E hx with
   |new h _ _=>exact absurd (old a _ e) (Qn h)
   |old i i1 i2 k hl _=>
    obtain⟨j,hj⟩:=Um i1;have hin:(inner c.ns locs aA)[locs.length+j]?=some x:=by
     simp only[inner];rw[Ov (OH _ _),P1,Oc,hj];exact congrArg some (iS i2)
    obtain⟨y,y1,y2,y3,y4⟩:=E.vA i i1;obtain rfl:=j' (i2.symm.trans y1);obtain⟨a',a1,a2,a3⟩:=O'.cell _ x hin (fun z=>nomatch (lL S.wf y2 y3).symm.trans z)
    obtain rfl:=j' (hx.symm.trans a1);refine .inr ⟨a2,fun i' x' v hx' hl' hv => ?_⟩
    obtain rfl:=S.wf.dW x x' a hl hl';have:i'=i:=(List.getElem?_inj (N3.mp hx').1 S.wf.once).mp (hx'.trans i2.symm)
    subst this;refine a3 v ?_
    rw[TO _ (OH _ _)];simp only[Sj];rw[Ov (by rw[Qc];exact OH _ _),Qc,P1,Oc,hj,OD,hv];rfl
  ·obtain⟨y,hy⟩:=O.there e
   exact .inl ⟨y,hy,O'.held _ _ (j9 q (tM (qW O e Own.noConfusion) e hy))⟩
 refine⟨⟨S.wf,S.rl,⟨_,K⟩,fun a o e=>l.l _ _ (S.base a o e),S'.gens,S'.os⟩,_,K,?_⟩
 have YN:σ s.heap.objs.size=none:=by cases q:σ s.heap.objs.size with | none=>rfl | some o=>exact absurd (old _ o q) (QM _)
 have hfr:σ' s.heap.objs.size=some .fr:=O'.fr;unfold Rt;rw[if_neg (xj O YN),YN,if_neg (fun q=>nomatch q),hfr]
end
end
section
variable{c:Cx}{ρ:aq}{Γ:ag}{T:Tab}{O:aL}{m:Md}{sc:QC}{locs:List Str}{aA:List Nat}
def Fix{α:Type}(k:Nat)(ρ:aq)(r:Res α):Prop := ∀a O3 Γ',r = .ok a O3 Γ'->∀j,k<=j->O3[j]?=ρ[j]?
inductive FH(c:Cx){α β:Type}(R:aF->aX->β->α->Prop)(τ:aF)(θ:aX)(b:β)(O3:aq)(Γ':ag)(v:α)(s':Shared):Prop
 |mk (Ow:aF) (OT:aX) (l:Lq τ θ Ow OT) (r:R Ow OT b v) (S:SR c Ow OT O3 Γ' s')
theorem uN{α β:Type}{R:aF->aX->β->α->Prop}{t:Su α}{r:Res β}{b O3 Γ' τ θ s}(h:N5 (M' PG c.w) c.A t (QP c τ θ R r.Q) (XP c τ θ r.X) s)(e:r = .ok b O3 Γ'):N5 (M' PG c.w) c.A t (FH c R τ θ b O3 Γ') bh s:=by
 subst e;exact Ob h (fun v s' hz=>by obtain⟨Ow,OT,d,O3,Γ',l1,l2,r1,S',q⟩:=hz;obtain⟨rfl,rfl,rfl⟩:=Res.uL q;exact⟨Ow,OT,⟨l1,l2⟩,r1,S'⟩) fun e s' hz=>by obtain⟨Ow,OT,n,a,O3,Γ',l1,l2,e1,e2,S',ix,q⟩:=hz;exact nomatch q
theorem Sd.ok{α β:Type}{R:aF->aX->β->α->Prop}{t:Su α}{r:Res β}{b O3 Γ' τ θ s}(h:Sd c R t r ρ Γ)(e:r = .ok b O3 Γ')(S:SR c τ θ ρ Γ s):N5 (M' PG c.w) c.A t (FH c R τ θ b O3 Γ') bh s:=uN (h.run (by rw[e];nofun) S) e
theorem SA.ok{t:Ex}{d:V}{u:Value}{O3 Γ' τ θ s}(h:SA c T O m t)(e:t.bC O m T d ρ Γ = .ok () O3 Γ')(S:SR c τ θ ρ Γ s)(r:VV τ θ d u):N5 (M' PG c.w) c.A (Ro (t.back T c.ns) c.env u) (FH c RU τ θ () O3 Γ') bh s:=uN (h ρ Γ d u τ θ s (by rw[e];nofun) S r) e
def Ar(w:World)(A:Around)(target elt:PySem.Expr)(ifs:List PySem.Expr)(it acc:Value)(env:R0)(n:Nat)(J:Nat->Shared->Prop)(F:Shared->Prop):Option Value->Shared->Prop:=fun r OU=>match r with
 |none=>F OU
 |some v=>N5 (M' PG w) A (Q6 target it v) (fun _ Pn=>N5 (M' PG w) A (Ro target env v) (fun _ PY=>
   N5 (M' PG w) A (forIn ifs true fun c r=>if r=true then do let ok<-Tc c env (Q7 c env);pure (Pp ok) else pure (Pp r)) (fun ok Sg=>
    cond ok (N5 (M' PG w) A (Q7 elt env) (fun x Ue=>N5 (M' PG w) A (call (.builtin "list.append") [acc,x]) (fun _ Tu => ∃m,m<n/\J m Tu) bh Ue) bh Sg) (∃m,m<n/\J m Sg)) bh PY) bh Pn) bh OU
theorem xv {A:Around} {w:World} {s:Shared} {elt target iter:PySem.Expr} {ifs:List PySem.Expr} {scope:QC} {pos:W7} {it acc:Value} {env:R0} {R:Result->Shared->Prop} (I:Nat->Shared->Prop)
  (turn : ∀n s,I n s->N5 (M' PG w) A (Wc it) (Ar w A target elt ifs it acc env n I (R (.ok .next))) bh s)
  (n:Nat) (h:I n s):SP (M' PG w) A (.compLoop (.ListComp elt [⟨target,iter,ifs,0⟩] scope pos) 0 it acc env) R s:=by
 refine codeAny_loop rfl I (fun n s hI => ?_) n h
 show N5 _ A ((compTurn (.ListComp elt [⟨target,iter,ifs,0⟩] scope pos) 0 it acc env).onRaise (fun x=>do WY x env;theTreesLotGoes x)) _ _ s
 refine wpAny_noted ?_
 rw[compTurn_list];refine u' (PN (u' (fA (Ob (turn n s hI) (fun r OU Rr => ?_) fun _ _ h'=>h'))))
 cases r with
 |none=>exact J' Rr
 |some v=>
  refine u' (fA (Ob Rr (fun _ Pn Wv => ?_) fun _ _ h'=>h'))
  refine u' (fA (Ob Wv (fun _ PY Wr=>u' (fA (Ob Wr (fun ok Sg Xk => ?_) fun _ _ h'=>h'))) fun _ _ h'=>h'))
  cases ok with
  |false=>exact J' ⟨rfl,Xk⟩
  |true=>
   exact u' (u' (fA (Ob Xk (fun x Ue Ys=>u' (fA (Ob Ys (fun _ Tu Yt=>J' (J' ⟨rfl,Yt⟩)) fun _ _ h'=>h'))) fun _ _ h'=>h')))
theorem lK{I D:Addr}{o oD:Obj}(h:D≠I):(c.hold I o).hold D oD=(c.hold D oD).hold I o:=by
 unfold Cx.hold;congr 1
 funext a
 by_cases h1:a=D
 ·subst h1;simp[h]
 ·by_cases h2:a=I
  ·subst h2;simp[PF h]
  ·simp[h1,h2]
structure cU(c:Cx)(sc:QC)(locs:List Str)(aA:List Nat)(c':Cx):Prop where
 w:c'.w=c.w
 A:c'.A=c.A
 lv:c'.lv=c.lv
 ns:c'.ns=inner c.ns locs aA
 kind : ∀x,c'.env.kindOf x=(sc.names.lookup x).map fun k=>if (k==O0&&c.env.scope.kind == .function&&c.env.kindOf x==some .cell) then Pg else k
 frame:c'.env.frame=c.env.frame
 fk:c'.env.scope.kind = .function
 free:c'.A.handled=none
noncomputable def dA(O:aL)(tgt elt:Ex)(ifs:bY)(T:Tab)(v:V)(ρ:aq)(Γ:ag):Res (Option V):=(tgt.bC O .free T v ρ Γ).bind fun _ ρ Γ=>(ifs.bL O .free T ρ Γ).bind fun b ρ Γ=>cond b ((elt.ev O .free T ρ Γ).bind fun v ρ Γ => .ok (some v) ρ Γ) (.ok none ρ Γ)
inductive EM{α β:Type}(r:Res α)(k:α->aq->ag->Res β)(b:β)(O3:aq)(Γ':ag):Prop
 |mk (a:α) (Od:aq) (Oj:ag) (h:r = .ok a Od Oj) (e:k a Od Oj = .ok b O3 Γ')
theorem j7{α β:Type}{r:Res α}{k:α->aq->ag->Res β}{b:β}{O3 Γ'}(h:r.bind k = .ok b O3 Γ'):EM r k b O3 Γ':=by
 cases r with
 |ok a Od Oj=>exact⟨a,Od,Oj,rfl,h⟩
 |ex=>exact nomatch h
 |no=>exact nomatch h
theorem lM{α β:Type}{o:Option α}{k:α->Res β}{b:β}{O3 Γ'}(h:Res.aT o k = .ok b O3 Γ'): ∃a,o=some a/\k a = .ok b O3 Γ':=by
 cases o with
 |none=>exact nomatch h
 |some a=>exact⟨a,rfl,h⟩
theorem BZ{α:Type}{r:Res α}{q}(h:r.y0=some q):r = .ok q.1 q.2.1 q.2.2:=by
 cases r with
 |ok a ρ Γ=>exact j' h▸rfl
 |_=>exact aE h
theorem F4{α:Type}{r:Res α}{q}(h:r.D1=some q): ∃ρ,r = .ok q.1 ρ q.2:=by
 cases r with
 |ok a ρ Γ=>exact⟨ρ,j' h▸rfl⟩
 |_=>exact aE h
inductive Dn(one:V->aq->ag->Res (Option V))(v:V)(r:List V)(ρ:aq)(Γ:ag)(acc l:List D)(O3:aq)(Γ':ag):Prop
 |mk (o:Option V) (Od:aq) (Oj:ag) (x:List D) (h:one v ρ Γ = .ok o Od Oj) (ho:outD o=some x) (e:di one r Od Oj (x++acc) = .ok l O3 Γ')
theorem wX{one:V->aq->ag->Res (Option V)}{v:V}{r:List V}{acc l:List D}{O3 Γ'}(h:di one (v::r) ρ Γ acc = .ok l O3 Γ'):Dn one v r ρ Γ acc l O3 Γ':=by
 obtain⟨q,h1,h⟩:=lM h;obtain⟨x,h2,h⟩:=lM h;exact⟨_,_,_,x,BZ h1,h2,h⟩
def LO(o:Obj)(vs:Array Value):Prop:=o.cls = .type "list"/\∃n,o.data = .seq vs n
theorem Ih{τ θ s}{D:Addr}{p:Pt}{σ:Addr->Option Own}(S:SR c τ θ ρ Γ s)(K:OK c σ τ θ ρ Γ s.heap)(hn:σ D=none)(H : ∀σ' Ow,Le τ Ow->At σ' Ow θ c.w s.heap D (.bp p)):SR c (cV τ D p) θ ρ Γ s/\Le τ (cV τ D p):=by
 have le:Le τ (cV τ D p):=fun b q e=>(if_neg fun(h:b=D)=>by rw[h] at e;rw[(K.bp _ _).mp e] at hn;exact aE hn.symm).trans e
 obtain⟨K',l⟩:=K.kG S.wf (p:=p) (Γ':=Γ) (.inl hn) (fun _ _ e=>e) rfl (fun i m e=>⟨e,fun f=>by
  obtain⟨x,hx,_⟩:=K.eo _ _ f;injection hn.symm.trans hx⟩) (H _ _ le)
 exact⟨⟨S.wf,S.rl,⟨_,K'⟩,fun a o e=>l _ _ (S.base a o e),S.gens,S.os⟩,l⟩
inductive CI(cc:Cx)(one:V->aq->ag->Res (Option V))(vs:List V)(I D:Addr)(IO:Nat->Obj->Prop)(k:Nat)(Rh:aq)(l:List Mine.D)(S6:aq)(S7:ag)(Oo:aF)(OC:aX)(n:Nat)(s':Shared):Prop
 |mk (i:Nat) (o oD:Obj) (acc:List Mine.D) (vsD:Array Value) (Ow:aF) (OT:aX) (O3:aq) (Γ':ag) (lq:Lq Oo OC Ow OT) (hio:IO i o) (hLO:LO oD vsD) (hvs:bz Ow acc.reverse vsD.toList) (S:SR ((cc.hold I o).hold D oD) Ow OT O3 Γ' s')
  (TO : ∀j,k<=j->O3[j]?=Rh[j]?) (hg:di one (vs.drop i) O3 Γ' acc = .ok l S6 S7) (hni:n+i=vs.length) (hal:acc.length<=i)
inductive CE(cc:Cx)(D:Addr)(k:Nat)(Rh:aq)(l:List Mine.D)(S6:aq)(S7:ag)(Oo:aF)(OC:aX)(s':Shared):Prop
 |mk (Ow:aF) (OT:aX) (σ:Addr->Option Own) (vs:Array Value) (lq:Lq Oo OC Ow OT) (S:SR cc Ow OT S6 S7 s') (K:OK cc σ Ow OT S6 S7 s'.heap) (hD:σ D=none) (hl:s'.heap.IsList D vs) (hv:bz Ow l vs.toList) (TO : ∀j,k<=j->S6[j]?=Rh[j]?)
theorem mH{τ θ s}{D:Addr}{oD:Obj}(S:SR (c.hold D oD) τ θ ρ Γ s):s.heap.get? D=some oD:=by
 obtain⟨σ,K⟩:=S.own;exact K.at_ _ _ (K.held D (.it oD) (if_pos rfl))
section
variable{cc:Cx}{tgt elt:Ex}{ifs:bY}{vs:List V}{I D:Addr}{IO:Nat->Obj->Prop}{k:Nat}{Rh S6:aq}{l:List Mine.D}{S7:ag}{Oo:aF}{OC:aX}
 (hT : ∀o oD,SA ((cc.hold I o).hold D oD) T O .free tgt) (hI : ∀o oD,jy ((cc.hold I o).hold D oD) T O .free ifs) (hE : ∀o oD,SE ((cc.hold I o).hold D oD) T O .free elt)
 (fT : ∀v ρ Γ,Fix k ρ (tgt.bC O .free T v ρ Γ)) (fI : ∀ρ Γ,Fix k ρ (ifs.bL O .free T ρ Γ)) (fE : ∀ρ Γ,Fix k ρ (elt.ev O .free T ρ Γ))
 (W:xq cc vs I IO Oo) (hWF:cc.WF) (hnI:cc.held I=none) (hnD:cc.held D=none) (hDI:D≠I) (nIL:I≠cc.env.locals) (nDL:D≠cc.env.locals) (hfit:vs.length<=Qv)
include hWF hnI hnD hDI nIL in
theorem zQ {n i:Nat} {o oD:Obj} {acc:List Mine.D} {vsD:Array Value} {d:Mine.D} {y:Value} {Ow OT s} (hio:IO (i+1) o) (hLO:LO oD vsD) (hvs:bz Ow acc.reverse vsD.toList) (ry:VR Ow d y) (S:SR ((cc.hold I o).hold D oD) Ow OT ρ Γ s) (lq:Lq Oo OC Ow OT)
  (TO : ∀j,k<=j->ρ[j]?=Rh[j]?) (hg:di (dA O tgt elt ifs T) (vs.drop (i+1)) ρ Γ (d::acc) = .ok l S6 S7) (hni:n+i=vs.length) (hi:i<vs.length) (hal:acc.length<=i) (hfit:vs.length<=Qv) :
  N5 (M' PG cc.w) cc.A (call (.builtin "list.append") [.ref D,y]) (fun _ Tu => ∃m,m<n/\CI cc (dA O tgt elt ifs T) vs I D IO k Rh l S6 S7 Oo OC m Tu) bh s:=by
 have hnDI:(cc.hold I o).held D=none:=(if_neg hDI).trans hnD;obtain⟨nn,hnn⟩:=hLO.2;have e1:vsD.size=acc.length:=by rw[<-PH,<-hvs.length,QW]
 refine wpAny_list_append (hsz:=by rw[e1];exact jx (cb hni) hfit hal) ⟨oD,mH S,hLO.1,nn,hnn⟩ fun h'' hl'' hs'' => ?_
 obtain⟨oD',hoD',c1,n1,d1⟩:=hl'';exact⟨n-1,(fj ‹_› ‹_›).1,i+1,o,oD',d::acc,vsD.push y,Ow,OT,ρ,Γ,lq,hio,⟨c1,n1,d1⟩,by rw[U9,UW];exact hvs.append ⟨ry,trivial⟩,m9 (pA hWF nIL hnI) hnDI S s.toks hs''.extBut hoD',TO,hg,by lia,by simp;assumption⟩
include hT hI hE fT fI fE hWF hnI hnD hDI nIL hfit in
theorem wo {n i:Nat} {o oD:Obj} {acc:List Mine.D} {vsD:Array Value} {d:V} {v:Value} {Ow OT s} (hd:vs[i]?=some d) (hio:IO (i+1) o) (hLO:LO oD vsD) (hvs:bz Ow acc.reverse vsD.toList) (S:SR ((cc.hold I o).hold D oD) Ow OT ρ Γ s) (rv:VV Ow OT d v) (lq:Lq Oo OC Ow OT)
  (TO : ∀j,k<=j->ρ[j]?=Rh[j]?) (hg:di (dA O tgt elt ifs T) (vs.drop i) ρ Γ acc = .ok l S6 S7) (hni:n+i=vs.length) (hal:acc.length<=i) :
  N5 (M' PG cc.w) cc.A (Ro (tgt.back T cc.ns) cc.env v) (fun _ PY=>
   N5 (M' PG cc.w) cc.A (forIn (ifs.back T cc.ns) true fun c r=>if r=true then do let ok<-Tc c cc.env (Q7 c cc.env);pure (Pp ok) else pure (Pp r)) (fun ok Sg=>
    cond ok (N5 (M' PG cc.w) cc.A (Q7 (elt.back T cc.ns) cc.env) (fun x Ue=>N5 (M' PG cc.w) cc.A (call (.builtin "list.append") [.ref D,x]) (fun _ Tu => ∃m,m<n/\CI cc (dA O tgt elt ifs T) vs I D IO k Rh l S6 S7 Oo OC m Tu) bh Ue) bh Sg) (∃m,m<n/\CI cc (dA O tgt elt ifs T) vs I D IO k Rh l S6 S7 Oo OC m Sg)) bh PY) bh s:=by
 obtain⟨ov,YO,YQ,x,hone,hx,hrest⟩:=wX ((congrArg (fun l=>di _ l ρ Γ acc) (p8 hd)).symm.trans hg)
 obtain⟨_,YR,YS,ha,hone⟩:=j7 hone;obtain⟨b,Yu,XY,hb,hone⟩:=j7 hone;have lt:i<vs.length:=(N3.mp hd).1;refine Ob (SA.ok (c:=(cc.hold I o).hold D oD) (hT o oD) ha S rv) (fun _ Xl ⟨V7,V8,VF,_,Ui⟩=>Ob ((hI o oD YR YS).ok hb Ui) (fun bv Xm H => ?_) fun _ _ x=>x) fun _ _ x=>x
 obtain⟨V9,Xn,UG,rb,Tw⟩:=H;cases rb;have fab : ∀j,k<=j->Yu[j]?=Rh[j]?:=fun j hj=>(fI YR YS _ _ _ hb j hj).trans ((fT d ρ Γ _ _ _ ha j hj).trans (TO j hj))
 cases b with
 |false=>
  obtain⟨rfl,rfl,rfl⟩:=Res.uL hone;cases hx;exact⟨n-1,(fj ‹_› ‹_›).1,i+1,o,oD,acc,vsD,V9,Xn,_,_,lq.trans (VF.trans UG),hio,hLO,hvs.mono (VF.trans UG).l,Tw,fab,hrest,(fj ‹_› ‹_›).2,ba hal⟩
 |true=>
  obtain⟨ev,Y5,Y6,he,hone⟩:=j7 hone;obtain⟨rfl,rfl,rfl⟩:=Res.uL hone;obtain⟨dd,hdd,rfl⟩:=aJ hx;cases V.cf hdd;exact Ob ((hE o oD Yu XY).ok he Tw) (fun y VG ⟨Xo,Xp,Uq,ry,R4⟩=>
   zQ hWF hnI hnD hDI nIL hio hLO (hvs.mono (VF.trans (UG.trans Uq)).l) ry R4 (lq.trans (VF.trans (UG.trans Uq))) (fun j hj=>(fE Yu XY _ _ _ he j hj).trans (fab j hj)) hrest hni lt hal hfit) fun _ _ x=>x
include hT hI hE fT fI fE W hWF hnI hnD hDI nIL nDL hfit in
theorem w9{n:Nat}{s:Shared}(h:CI cc (dA O tgt elt ifs T) vs I D IO k Rh l S6 S7 Oo OC n s):
  N5 (M' PG cc.w) cc.A (Wc (.ref I)) (Ar cc.w cc.A (tgt.back T cc.ns) (elt.back T cc.ns) (ifs.back T cc.ns) (.ref I) (.ref D) cc.env n (CI cc (dA O tgt elt ifs T) vs I D IO k Rh l S6 S7 Oo OC) (CE cc D k Rh l S6 S7 Oo OC)) bh s:=by
 obtain⟨i,o,oD,acc,vsD,TR,TS,Un,Uo,lq,hio,hLO,hvs,Uh,TO,hg,hni,hal⟩:=h;have Ur:=Uh;rw[lK hDI] at Ur;have hnID:(cc.hold D oD).held I=none:=(if_neg (PF hDI)).trans hnI;have WD:=pA (o:=oD) hWF nDL hnD;obtain⟨_,step,fin,_⟩:=W (cc.hold D oD) i o TR TS Un Uo s rfl hio lq.l Ur;cases hd:vs[i]? with
 |none=>
  have hl:=Tp.mp hd;refine Ob (fin hd (RK (hni▸Qa ..) hl)) (fun rr Xr H => ?_) fun _ _ x=>x
  obtain⟨h',tk,e1,e2,ext⟩:=H;subst e1 e2;obtain⟨rfl,rfl,rfl⟩:=Res.uL ((congrArg (fun l=>di _ l Un Uo acc) (Pr hl)).symm.trans hg)
  have Ss:=e6 WD hnID Ur tk ext;obtain⟨V',Ww,VH⟩:=ll (h':=h') hnD Ss (fun _ _ _ e=>e)
  obtain⟨nn,hnn⟩:=hLO.2;exact⟨TR,TS,V',vsD,lq,⟨hWF,Ss.rl,⟨_,VH⟩,Ss.base,Ss.gens,Ss.os⟩,VH,Ww,⟨oD,mH Ss,hLO.1,nn,hnn⟩,hvs,TO⟩
 |some d=>
  refine Ob (step d hd) (fun rr Xr H => ?_) fun _ _ x=>x
  obtain⟨v,o',h',tk,e1,rv,hio',e2,ho',ext⟩:=H;subst e1 e2;have Ss:=m9 WD hnID Ur tk ext ho';obtain⟨⟨Tn',hc',hT'⟩,_⟩:=W (cc.hold D oD) (i+1) o' TR TS Un Uo _ rfl hio' lq.l Ss;rw[<-lK hDI] at Ss;exact xF ho' hc' hT' (wo hT hI hE fT fI fE hWF hnI hnD hDI nIL hfit hd hio' hLO hvs Ss rv lq TO hg hni hal)
end
inductive CD(c:Cx)(C D:Addr)(l:List Mine.D)(τ:aF)(θ:aX)(ρ:aq)(Γ:ag)(s':Shared):Prop
 |mk (oC:Obj) (Ow:aF) (OT:aX) (lq:Lq τ θ Ow OT) (W:c.WF) (hC:c.held C=none) (r:VR Ow (.lst l) (.ref D)) (S:SR (c.hold C oC) Ow OT ρ Γ s') (ns : ∃mv,s'.heap.Ns C mv)
theorem zE {σ:Addr->Option Own} {mv:Str->Option Value} {s s':Shared} {D:Addr} {l:List Mine.D} {S6:aq} {S7:ag} {τ:aF} {θ:aX} (S:SR c τ θ ρ Γ s) (K:OK c σ τ θ ρ Γ s.heap) (hmv:s.heap.Ns c.env.locals mv) (E:de c sc locs aA)
  (h:CE (c.comp σ s.heap mv (cY c sc s.heap.objs.size) (inner c.ns locs aA)) D locs.length (Sj ρ locs aA) l S6 S7 τ θ s'):CD c s.heap.objs.size D l τ θ ρ S7 s':=by
 obtain⟨TR,TS,V',vs,lq,Ui,VH,Ww,hl,hv,TO⟩:=h;obtain⟨Tw,Wa⟩:=Ih (p := .lst l none) Ui VH Ww fun σ' Ow le=>⟨⟨vs,hl,hv.mono le⟩,fun x e=>aE e⟩
 obtain⟨R4,Yr,Ko,uo⟩:=FA S K hmv E ⟨lq.l.trans Wa,lq.k⟩ Tw TO;obtain⟨YT,Xs⟩:=Tw.own;obtain⟨mv',hns⟩:=Xs.at_ _ _ Xs.fr;obtain⟨oC,hoC⟩ : ∃oC,s'.heap.get? s.heap.objs.size=some oC:=let ⟨o,_,_,h,_⟩:=hns;⟨o,h⟩
 exact⟨oC,_,_,⟨lq.l.trans Wa,lq.k⟩,S.wf,ir Ko uo,⟨D,rfl,none,js⟩,jI R4 Ko uo hoC,⟨mv',hns⟩⟩
theorem pP{I D:Addr}{o oD:Obj}{σ:Addr->Option Own}{h:Po}{mv:Str->Option Value}{C:Addr}(E:de c sc locs aA)(hA:c.A.handled=none):cU c sc locs aA (((c.comp σ h mv (cY c sc C) (inner c.ns locs aA)).hold I o).hold D oD):=
 ⟨rfl,rfl,rfl,rfl,fun x=>mD,rfl,E.kind,hA⟩
theorem zh {elt tgt:Ex} {it:PySem.Expr} {ifs:bY} {p:W7} {vs:List V} {l:List Mine.D} {S6:aq} {S7:ag} {τ:aF} {θ:aX} {s Pn:Shared} {itv:Value} {use:Option (Value->Su Unit)} {Q:Value->Shared->Prop} {X:Value->Shared->Prop} (E:de c sc locs aA) (hA:c.A.handled=none)
  (hT : ∀c',cU c sc locs aA c'->SA c' T O .free tgt) (hI : ∀c',cU c sc locs aA c'->jy c' T O .free ifs) (hE : ∀c',cU c sc locs aA c'->SE c' T O .free elt)
  (fT : ∀v ρ Γ,Fix locs.length ρ (tgt.bC O .free T v ρ Γ)) (fI : ∀ρ Γ,Fix locs.length ρ (ifs.bL O .free T ρ Γ)) (fE : ∀ρ Γ,Fix locs.length ρ (elt.ev O .free T ρ Γ))
  (S:SR c τ θ ρ Γ s) (h:jd c vs τ s itv Pn) (hfit:vs.length<=Qv) (hgo:di (dA O tgt elt ifs T) vs (Sj ρ locs aA) Γ [] = .ok l S6 S7)
  (k : ∀C D s',CD c C D l τ θ ρ S7 s'->Vt (M' PG c.w) c.A X use Q (.ref D) C (.ok .next) s') :
  N5 (M' PG c.w) c.A (WB []) (fun acc PY=>N5 (M' PG c.w) c.A (T3 sc c.env.globals (frees c.env.cells sc.names []) [] c.env.qual none .none (some c.env)) (fun cenv Sg=>
    SP (M' PG c.w) c.A (.compStart (.ListComp (elt.back T (inner c.ns locs aA)) [⟨tgt.back T (inner c.ns locs aA),it,ifs.back T (inner c.ns locs aA),0⟩] sc p) 0 itv acc {cenv with scope:=relabel sc c.env}) (Vt (M' PG c.w) c.A X use Q acc cenv.locals) Sg) X PY) X Pn:=by
 obtain⟨IO,SX,e1,e2,Up,Tv,W⟩:=h;subst e1 e2;refine Us (tf ?_) (RW _)
 obtain⟨D,hD⟩ : ∃D,D=(s.heap.push SX).objs.size:=⟨_,rfl⟩;obtain⟨I,hIs⟩ : ∃I,I=s.heap.objs.size:=⟨_,rfl⟩;obtain⟨PY,SI⟩ : ∃PY:Shared,PY={s with heap:=(s.heap.push SX).push {cls := .type "list",data := .seq ([]:List Value).toArray}}:=⟨_,rfl⟩
 obtain⟨σ,K⟩:=S.own;have Yv : ∀b o,s.heap.get? b=some o->PY.heap.get? b=some o:=fun b o e=>by rw[SI];exact cA _ b o (cA _ b o e)
 have zD:D=I+1:=by rw[hD,hIs];exact Q4 ..
 have Yw:PY.heap.objs.size=D+1:=by rw[SI,hD];exact Q4 ..
 have hDI:D≠I:=zD▸VB _;have YU:σ I=none:=hIs▸K.fresh (dP _);have YV:σ D=none:=K.fresh (RP (by rw[zD,hIs];exact Rj _))
 have QQ:SR c τ θ ρ Γ PY:=by rw[SI];exact S.heap s.toks fun σ K=>K.keeps fun b o e=>cA _ b o (cA _ b o e)
 have VI:OK c σ τ θ ρ Γ PY.heap:=K.keeps Yv;have Wb:PY.heap.get? I=some SX:=by rw[SI,hIs];exact cA _ _ _ Up
 have Xu:PY.heap.get? D=some {cls := .type "list",data := .seq ([]:List Value).toArray}:=by rw[SI,hD];exact Pw _ rfl
 rw[show({({s with heap:=s.heap.push SX}:Shared) with heap:=({s with heap:=s.heap.push SX}:Shared).heap.push {cls := .type "list",data := .seq ([]:List Value).toArray}}:Shared)=PY from SI.symm,<-hD,<-hIs]
 rw[<-hIs] at W;clear SI hD hIs Up;obtain⟨mv,hmv⟩:=VI.at_ _ _ VI.fr;obtain⟨Sh,σ',VJ,un⟩:=Fv QQ VI hmv E;have Tz : ∀b o,PY.heap.get? b=some o->(Tb (PY.heap.push {cls := .type "dict",data := .dict #[]}) sc.names).get? b=some o:=fun b o e=>TJ _ _ b o (Pb _ e)
 have lDC:D<PY.heap.objs.size:=Yw▸Qm D;have lIC:I<PY.heap.objs.size:=Xd (zD▸Qm I) lDC;have Wx:σ' I=none:=un I lIC YU;have Xv:σ' D=none:=un D lDC YV;have hnI:=ir VJ Wx;have hnD:=ir VJ Xv;have SH:=jI (jI Sh VJ Wx (Tz _ _ Wb)) (rF VJ Wx (Tz _ _ Wb)) ((bu hDI).trans Xv) (Tz _ _ Xu);have goal:=xv (w:=c.w) (A:=c.A) (R:=Vt (M' PG c.w) c.A X use Q (.ref D) PY.heap.objs.size) (elt:=elt.back T (inner c.ns locs aA)) (scope:=sc) (pos:=p) (iter:=it) (CI (c.comp σ PY.heap mv (cY c sc PY.heap.objs.size) (inner c.ns locs aA)) (dA O tgt elt ifs T) vs I D IO locs.length (Sj ρ locs aA) l S6 S7 τ θ) (fun n s h=>Ob
   (w9 (fun o oD=>hT _ (pP E hA)) (fun o oD=>hI _ (pP E hA)) (fun o oD=>hE _ (pP E hA)) fT fI fE W Sh.wf hnI hnD hDI (PK lIC) (PK lDC) hfit h) (fun r s' z=>by
    cases r with
    |none=>exact k _ _ _ (zE QQ VI hmv E z)
    |some v=>exact z) fun _ _ x=>x) vs.length
   ⟨0,SX,_,[],#[],τ,θ,_,_,.refl _ _,Tv,⟨rfl,_,rfl⟩,trivial,SH,fun _ _=>rfl,hgo,rfl,Ox _⟩
 refine codeAny_compStart_list goal ?_
 rw[lK hDI] at SH;exact fA (Ob (W (((c.comp σ PY.heap mv (cY c sc PY.heap.objs.size) (inner c.ns locs aA))).hold D _) 0 SX τ θ _ Γ _ rfl Tv (.refl _) SH).2.2.2 (fun it' s' hz=>by obtain⟨e1,e2⟩:=hz;subst e1 e2;exact goal) fun _ _ x=>x)
theorem qM {elt tgt it:Ex} {ifs:bY} {gk:List (Str×D)} {p:Nat} {pos:W7} {use:Option (Value->Su Unit)} {Q:Value->Shared->Prop} {X:Value->Shared->Prop} {τ θ s} (hi:SE c T O m it) (E:de c sc locs aA) (hm:m.b=true->c.A.handled=none)
  (hT : ∀c',cU c sc locs aA c'->SA c' (T.sub gk) O .free tgt) (hI : ∀c',cU c sc locs aA c'->jy c' (T.sub gk) O .free ifs) (hE : ∀c',cU c sc locs aA c'->SE c' (T.sub gk) O .free elt)
  (fT : ∀v ρ Γ,Fix locs.length ρ (tgt.bC O .free (T.sub gk) v ρ Γ)) (fI : ∀ρ Γ,Fix locs.length ρ (ifs.bL O .free (T.sub gk) ρ Γ)) (fE : ∀ρ Γ,Fix locs.length ρ (elt.ev O .free (T.sub gk) ρ Γ))
  (hn:(Ex.comp elt tgt it ifs locs aA gk sc p).ev O m T ρ Γ≠ .no) (S:SR c τ θ ρ Γ s)
  (hX : ∀e s',XP c τ θ ((Ex.comp elt tgt it ifs locs aA gk sc p).ev O m T ρ Γ).X e s'->X e s')
  (k : ∀C D l Oo OC Od Γ' s',Lq τ θ Oo OC->(Ex.comp elt tgt it ifs locs aA gk sc p).ev O m T ρ Γ = .ok (.d (.lst l)) Od Γ'->CD c C D l Oo OC Od Γ' s'->Vt (M' PG c.w) c.A X use Q (.ref D) C (.ok .next) s') :
  N5 (M' PG c.w) c.A (YE ((Ex.comp elt tgt it ifs locs aA gk sc p).back T c.ns) sc c.env pos (WB []) false (Q7 (it.back T c.ns) c.env) use) Q X s:=by
 have hclos:We sc c.env=pure (frees c.env.cells sc.names []):=qO fun x hx hf=>by
  obtain⟨σ,K⟩:=S.own;obtain⟨i,i1,i2⟩:=E.AH x hx hf;obtain⟨y,y1,y2,y3,y4⟩:=E.vA i i1;injection i2.symm.trans y1 with y1;subst y1
  obtain⟨a,a1,_⟩:=K.cell i _ i2 (by rw[y3];simp)
  exact⟨a,a1⟩
 exact wpAny_comprehension_free (use:=use) rfl (fun x=>qD it T c.ns c.env x) hclos E.kind E.names (rJ ((hi ρ Γ).go hn S (.refl _ _) fun u OU Oo OC x Od Oj Oz _ OL Ot n₁ OA=>
  bt n₁ OA fun vs q Px O6=>eE Px O6 fun qb RI Qt=>bt RI Qt fun g hg _ Si=>by
   obtain⟨hb,hf⟩:=Ol.mp qb;obtain⟨S6,hgo⟩:=F4 hg;exact fA (Ob (ug (hm hb) q Ot OL) (fun itv Pn h=>zh E (hm hb) hT hI hE fT fI fE Ot h (cN hf) hgo fun C D s' z=>k C D g.1 Oo OC Od g.2 s' Oz Si z) fun _ _ x=>x)) hX)
end
section
variable{c:Cx}{ρ:aq}{Γ:ag}{T:Tab}{O:aL}{m:Md}{sc:QC}{locs:List Str}{aA:List Nat}
theorem Ef {elt tgt it:Ex} {ifs:bY} {gk:List (Str×D)} {p:Nat} (hi:SE c T O m it) (E:de c sc locs aA) (hm:m.b=true->c.A.handled=none)
  (hT : ∀c',cU c sc locs aA c'->SA c' (T.sub gk) O .free tgt) (hI : ∀c',cU c sc locs aA c'->jy c' (T.sub gk) O .free ifs) (hE : ∀c',cU c sc locs aA c'->SE c' (T.sub gk) O .free elt)
  (fT : ∀v ρ Γ,Fix locs.length ρ (tgt.bC O .free (T.sub gk) v ρ Γ)) (fI : ∀ρ Γ,Fix locs.length ρ (ifs.bL O .free (T.sub gk) ρ Γ)) (fE : ∀ρ Γ,Fix locs.length ρ (elt.ev O .free (T.sub gk) ρ Γ)):SE c T O m (.comp elt tgt it ifs locs aA gk sc p):=fun ρ Γ => .of fun τ θ s hn S=>by
 exact qM (use:=none) hi E hm hT hI hE fT fI fE hn S (fun e s' h=>h) fun C D l Oo OC Od Γ' s' Oz e ⟨oC,Ow,OT,lq,W,hC,r,S',mv,hmv⟩=>
  ⟨mv,hmv,fun h' hs => .fin (Oz.trans lq) (R:=RV) (b := .d (.lst l)) r (e6 W hC S' s'.toks hs.extBut) e⟩
theorem Gl {t elt tgt it:Ex} {ifs:bY} {gk:List (Str×D)} {p q:Nat} (hi:SE c T O m it) (E:de c sc locs aA) (hm:m.b=true->c.A.handled=none)
  (hT : ∀c',cU c sc locs aA c'->SA c' (T.sub gk) O .free tgt) (hI : ∀c',cU c sc locs aA c'->jy c' (T.sub gk) O .free ifs) (hE : ∀c',cU c sc locs aA c'->SE c' (T.sub gk) O .free elt)
  (fT : ∀v ρ Γ,Fix locs.length ρ (tgt.bC O .free (T.sub gk) v ρ Γ)) (fI : ∀ρ Γ,Fix locs.length ρ (ifs.bL O .free (T.sub gk) ρ Γ)) (fE : ∀ρ Γ,Fix locs.length ρ (elt.ev O .free (T.sub gk) ρ Γ))
  (ht : ∀C oC,SA (c.hold C oC) T O m t) (hs:Qi [t.back T c.ns] ((Ex.comp elt tgt it ifs locs aA gk sc q).back T c.ns) (aK p).line c.env=pure true) (hte:PR [t.back T c.ns] c.env=[(false,Ro (t.back T c.ns) c.env)]) :
  SS c T O m (.asg t (.comp elt tgt it ifs locs aA gk sc q) p):=fun ρ Γ => .of fun τ θ s hn S=>by
 show N5 _ _ (exec (.Assign [t.back T c.ns] ((Ex.comp elt tgt it ifs locs aA gk sc q).back T c.ns) (aK p)) c.env) _ _ s
 generalize hEE:(Ex.comp elt tgt it ifs locs aA gk sc q).back T c.ns=EE at hs ⊢;show N5 _ _ (do
   SO (aK p)
   if<-Qi [t.back T c.ns] EE (aK p).line c.env then do
    Vs EE c.env fun v=>W4 v ((PR [t.back T c.ns] c.env).map (·.2))
    pure .next
   else do
    let v<-Q7 EE c.env
    SQ c.env v (<-Qu [t.back T c.ns] EE c.env) ((PR [t.back T c.ns] c.env).map (·.2))) _ _ s
 refine u' (PN ?_)
 rw[hs,hte];refine u' (J' ?_)
 rw[if_pos rfl];subst hEE;show N5 _ _ ((YE ((Ex.comp elt tgt it ifs locs aA gk sc q).back T c.ns) sc c.env _ (WB []) false (Q7 (it.back T c.ns) c.env) (some (Ro (t.back T c.ns) c.env))>>=fun _=>pure ())>>=fun _=>pure Yc) _ _ s
 refine u' (u' (qM (use:=some (Ro (t.back T c.ns) c.env)) hi E hm hT hI hE fT fI fE (iR hn) S (fun e s' hz=>by obtain⟨Ow,OT,n,a,O3,Γ',k1,k2,e1,e2,S1,ix,x⟩:=hz;exact⟨Ow,OT,n,a,O3,Γ',k1,k2,e1,e2,S1,ix,congrArg (fun r=>Res.bind r fun v ρ Γ=>(t.bC O m T v ρ Γ).bind fun _ ρ Γ=>Res.ok Fl.next ρ Γ) x⟩) fun C D l Oo OC Od Γ' s' Oz e ⟨oC,Ow,OT,lq,W,hC,ra,S',mv,hmv⟩ => ?_))
 have e':(St.asg t (.comp elt tgt it ifs locs aA gk sc q) p).ex T O m ρ Γ=(t.bC O m T (.d (.lst l)) Od Γ').bind fun _ ρ Γ => .ok Fl.next ρ Γ:=congrArg (fun r=>Res.bind r fun v ρ Γ=>(t.bC O m T v ρ Γ).bind fun _ ρ Γ=>Res.ok Fl.next ρ Γ) e
 exact rJ ((ht C oC).go (c:=c.hold C oC) (fun q=>hn (e'.trans q)) S' ra (Oz.trans lq) (fun Pn Pu O5 PJ PA PI m₂ OW Px O6=>by
  refine⟨mv,?_,fun h' hs'=>J' (J' (.fin PI (R:=RF) (b:=Fl.next) rfl (e6 W hC OW Pn.toks hs'.extBut) O6))⟩
  obtain⟨o,es,ep,h1,h2⟩:=hmv;exact⟨o,es,ep,by rw[mH S'] at h1;rw[mH OW];exact h1,h2⟩) e') fun e s' x=>xd W hC x
end
section
def hZ(c:Cx):Md->Prop
 | .free=>c.A.handled=none
 | .hold k => ∃a,c.hd=some (k,a)/\c.A.handled=some (.ref a)
 | .eS=>True
theorem OK.Gk {σ τ θ h h'} (O:OK c σ τ θ ρ Γ h) (W:c.WF) {n:Nat} {a:Addr} {v:Value} {C fs ctx T} (Qg:Γ[n]?=some (some (.exc C fs ctx T))) (Pa:θ[n]?=some a) {oe:Obj} {vs:Array Value} (he:h.get? a=some oe) (hd:oe.data = .fields vs)
  (hs : ∀b,b≠a->h'.get? b=h.get? b) (he':h'.get? a=some {oe with data := .fields (vs.setIfInBounds 2 v)}):OK c (upd σ a (.mu (.exc C fs true T))) τ θ ρ (Γ.set n (some (.exc C fs true T))) h':=by
 have ha:=O.d6 n a _ Qg Pa;have H:=O.at_ a _ ha;exact O.change W (m' := .exc C fs true T) Pa ha (h':=h') (fun b o hb _ e=>(hs b hb).trans e) (fun b e=>by
  obtain⟨o,ho⟩:=O.there e;have:b≠a:=by rintro rfl;rw[ha] at e;cases e
  exact⟨o,(hs b this).trans ho⟩) (by
  obtain⟨d,mA,vs',h1,h2,h3,h4,h6,h7,h8,h9,h10⟩:=H;injection he.symm.trans h1 with h1;subst h1
  injection hd with hd;subst hd
  have hda : ∀x,d=some x->x≠a:=fun x e q=>by subst q;have:=(h2 _ e).2;rw[ha] at this;cases this
  refine⟨d,mA,_,he',fun x e=>⟨(h2 x e).1.at fun o e'=>(hs x (hda x e)).trans e',by rw[bu (hda x e)];exact(h2 x e).2⟩,h3,h4,h6,by simpa using h7,fun q=>(by injection q),fun q => ?_,fun x hx hn => ?_⟩
  ·rw[OR (by decide)];exact h9 q
  ·rw[OR (by decide)] at hx;exact h10 x hx hn)
theorem qN:entryFor table "proto.unchain"=some WJ.«proto.unchain» := entryFor_of_tree (by kernel_rfl)
theorem r9{A:Around}{w:World}{s:Shared}{e x:Value}{a:Addr}{o:Obj}{vs:Array Value}{b:Bool}{Q:Value->Shared->Prop}{E:Value->Shared->Prop}(ho:s.heap.get? a=some o)(hd:o.data = .fields vs)(h2:vs[2]?=some .none)(h:Q .none s):
  N5 (M' PG w) A (runValue (.builtin "proto.unchain" ⟨[e,.ref a,x,.bool b],[]⟩)) Q E s:=by
 refine wpAny_runValue (codeAny_builtin qN ?_)
 unfold WJ.«proto.unchain»;refine u' (PW ho hd h2 ?_)
 dsimp only;rw[if_pos (by rfl)]
 exact J' (a:=Fin.done (.ret .none)) h
theorem gu{τ θ s}{n:Nat}{a:Addr}{C fs x t}(S:SR c τ θ ρ Γ s)(Pa:θ[n]?=some a)(hg:bq Γ n=some (.exc C fs x t)):C=84/\P2 (M' PG c.w) s.heap (Sx (.ref a)) (.ref 84)/\P2 (M' PG c.w) s.heap (isType (.ref a)) false/\∃oe vs,s.heap.get? a=some oe/\oe.data = .fields vs/\4<vs.size/\(x=false->vs[2]?=some .none):=by
 obtain⟨σ,K,ha,od,mA,vs,h1,h2',h3,⟨h4,h4'⟩,h5,h6,h7,h8,h9⟩:=S.c4 Pa hg;have hC:=h4';unfold vj at hC;subst hC;exact⟨rfl,(T6 h1).andThen .now,(T6 h1).andThen .now,_,vs,h1,rfl,h6,h7⟩
theorem J4(P:Of):T5 (KK P) (.ref 84)=some (.type "type"):=by kernel_rfl
theorem vC{τ θ s}{n:Nat}{a:Addr}{C fs x t}{str:String}(S:SR c τ θ ρ Γ s)(Pa:θ[n]?=some a)(hg:bq Γ n=some (.exc C fs x t)):P2 (M' PG c.w) s.heap (excFromValue (.ref a) str) (.ref a):=by
 obtain⟨rfl,LT,LI,_⟩:=gu S Pa hg;have L2:P2 (M' PG c.w) s.heap (Rn (.ref a) (.type "BaseException")) true:=LT.andThen (R7 S.K (FQ _));intro A Q E s' k q;unfold excFromValue isExcClass;refine u' (u' ((LI.keeps k).here ?_))
 rw[if_neg (by simp)]
 refine J' ?_
 rw[if_neg (by simp)]
 refine u' ((L2.keeps k).here ?_)
 rw[if_pos rfl];exact J' q
theorem x2{τ θ s}{n:Nat}{a:Addr}{C fs x t}(S:SR c τ θ ρ Γ s)(Pa:θ[n]?=some a)(hg:bq Γ n=some (.exc C fs x t)):P2 (M' PG c.w) s.heap (X5 (.ref a)) (.ref a):=by
 obtain⟨rfl,LT,LI,_⟩:=gu S Pa hg;have L3:P2 (M' PG c.w) s.heap (Sx (.ref 84)) (.type "type"):=looks_typeIn S.K (J4 _);intro A Q E s' k q;unfold X5;refine u' ((LT.keeps k).here (u' ((L3.keeps k).here ?_)))
 rw[if_pos (by rfl)]
 exact J' q
theorem Ck{β:Type}{b:Bool}{r r0:Res β}{P:Prop}(n:cond b .no r≠ .no)(e:r0=cond b .no r)(K:b=false->r0=r->P):P:=by
 cases b with
 |true=>exact absurd rfl n
 |false=>exact K rfl e
theorem XP.fin{β:Type}{r:Res β}{τ OJ θ OQ s}{n:Nat}{a:Addr}{ex:Exc}(l:Lq OJ OQ τ θ)(S:SR c τ θ ρ Γ s)(Pa:θ[n]?=some a)(Qg:Γ[n]?=some (some ex.mu))(e:r = .ex n ρ Γ):XP c OJ OQ r.X (.ref a) s:=
 ⟨τ,θ,n,a,ρ,Γ,l.l,l.k,rfl,Pa,S,⟨ex.C,ex.fs,ex.x,ex.t,Qg⟩,e⟩
theorem ze{τ θ s}{n:Nat}{a ah:Addr}{ex:Exc}{E:Value->Shared->Prop}{α:Type}{Q:α->Shared->Prop}(S:SR c τ θ ρ Γ s)(Pa:θ[n]?=some a)(hg:i8 Γ n=some ex)(h : ∀s',SR c τ θ ρ (Γ.set n (some {ex with x:=true}.mu)) s'->E (.ref a) s'):
  N5 (M' PG c.w) c.A (do TB a 2 (.ref ah);throw (.ref a):Su α) Q E s:=by
 obtain⟨_,_,_,oe,vs,h1,h2,h3,h4⟩:=gu S Pa (dS hg);unfold TB;refine u' (u' (wpAny_load h1 ?_))
 rw[h2];dsimp only;rw[if_pos (Xd (by decide) ‹4<_›)]
 refine wpAny_update h1 (TA (h _ ?_))
 obtain⟨σ,K⟩:=S.own;have hd':=Q8 h2 (·.setIfInBounds 2 (Value.ref ah));exact⟨S.wf,S.rl,⟨_,K.Gk S.wf (v := .ref ah) (C:=ex.C) (fs:=ex.fs) (ctx:=ex.x) (T:=ex.t) (fh (dS hg)) Pa h1 h2 (h':=s.heap.update a (Obj.mapFields (·.setIfInBounds 2 (.ref ah)))) (fun b hb=>Qw _ _ (PF hb)) (by
  rw[Qb _ h1 (QE hd')];obtain⟨cl,dc,dt,sl⟩:=oe;simp only at h2;subst h2;rfl)⟩,S.base,S.gens,S.os⟩
theorem tm{α:Type}{Q:α->Shared->Prop}{r0:Res Fl}{τ OJ θ OQ s}{n:Nat}{a:Addr}{ex:Exc}(hm:hZ c m)(S:SR c τ θ ρ Γ s)(Pa:θ[n]?=some a)(hg:i8 Γ n=some ex)(l:Lq OJ OQ τ θ)(hn:vL m n ex ρ Γ≠ .no)(e:r0=vL m n ex ρ Γ):
  N5 (M' PG c.w) c.A (raiseNew (.ref a):Su α) Q (XP c OJ OQ r0.X) s:=by
 have Qg:=fh (dS hg);unfold raiseNew;refine u' (wpAny_handled ?_)
 cases m with
 |free=>
  rw[show c.A.handled=none from hm]
  exact u' (J' (TA (.fin l S Pa Qg e)))
 |eS=>exact absurd rfl hn
 |hold k=>
  obtain⟨ah,hhd,hh⟩:=hm;rw[hh];obtain⟨σ,K⟩:=S.own;have hk:θ[k]?=some ah:=K.len.pin k ah hhd;change cond (I' k n) _ _≠Res.no at hn;change r0=cond (I' k n) _ _ at e;cases qk:I' k n with
  |true=>
   rw[qk] at e;rw[N2 qk,Pa] at hk;injection hk with hk;subst hk
   dsimp only;rw[if_neg (by simp)]
   exact u' (J' (TA (.fin l S Pa Qg e)))
  |false=>
   rw[qk] at hn e;have hne:(Value.ref ah != Value.ref a)=true:=by
    rw[bne_iff_ne];intro q;injection q with q;subst q
    rw[K.inj _ _ _ hk Pa,OZ] at qk;exact H' qk
   dsimp only;rw[if_pos hne];exact bt hn e fun ek hgk Px O6=>Ck Px O6 fun qx Qt=>by
    obtain⟨_,_,_,oh,hs,g1,g2,g3,g4⟩:=gu S hk (dS hgk);exact u' (wpAny_holding (r9 g1 g2 (g4 qx) (ze S Pa hg fun s' S' => .fin l S' Pa (dH Qg) Qt)))
theorem Di{e p}(he:SE c T O m e)(hm:hZ c m):SS c T O m (.nF e p):=fun ρ Γ => .of fun τ θ s hn S=>by
 refine gb (t':=do SO (aK p);raiseStmt c.env (some (do let v<-Q7 (e.back T c.ns) c.env;SO (aK p);pure v)) none) (arm_exec_Raise ..) (u' (PN ?_))
 unfold raiseStmt;refine u' (u' ((he ρ Γ).go hn S (.refl _ _) fun u OU Oo OC d Od Oj Oz _ OL Ot n₁ OA=>u' (PN (J' (bt n₁ OA fun n hd Px O6=>bt Px O6 fun ex hg RI Qt => ?_)))))
 obtain rfl:=V.jm hd;obtain⟨a,rfl,Pa⟩:=OL;obtain⟨hC,LT,LI,oe,vs,h1,h2,h3,h4⟩:=gu Ot Pa (dS hg);refine u' (J' (u' (wpAny_holding ((vC Ot Pa (dS hg)).here ?_))))
 dsimp only;refine u' (LI.here ?_)
 rw[if_neg (by simp)]
 exact u' ((x2 Ot Pa (dS hg)).here (u' (er Ot (fh (dS hg)) Pa fun Pn OW=>tm hm OW Pa hg Oz RI Qt)))
end
section
theorem OK.forget {σ τ θ h h'} (O:OK c σ τ θ ρ Γ h) (W:c.WF) {i:Nat} {x:Str} {v:Option Value} (hi:c.ns[i]?=some x) (hx:c.env.kindOf x=some .local)
  (hs:Q1 c.env.locals h h') (hN : ∀mv,h.Ns c.env.locals mv->∃v,h'.Ns c.env.locals (fun y=>if y=x then v else mv y)):OK c σ τ θ (ρ.set i none) Γ h':=by
 have kk : ∀b,b≠c.env.locals->h'.get? b=h.get? b:=hs.2;have ne : ∀b o,σ b=some o->o≠ .fr->b≠c.env.locals:=fun b o e hn q=>by subst q;rw[O.fr] at e;injection e with e;subst e;exact hn rfl
 refine⟨fun b o e => ?_,O.bp,O.fr,fun mv hm j y u hy hu hk => ?_,fun j y hy hk => ?_,O.held,O.len,O.inj,O.eo,O.d6⟩
 ·by_cases hb:b=c.env.locals
  ·subst hb;rw[O.fr] at e;injection e with e;subst e
   obtain⟨mv,h1⟩:=O.at_ _ _ O.fr;obtain⟨v,h2⟩:=hN _ h1;exact⟨_,h2⟩
  ·exact(O.at_ b o e).dQ (Le.refl _) (.refl _) _ (fun d f q=>q) (kk b hb) fun d hd=>kk d (ne _ _ hd (by simp))
 ·obtain⟨mv0,h1⟩:=O.at_ _ _ O.fr
  obtain⟨v,h2⟩:=hN _ h1;obtain rfl:=fq h2 hm;by_cases hj:j=i
  ·subst hj
   rw[Qz] at hu;simp only[if_true] at hu;split at hu<;>cases hu
  ·rw[OP (PF hj)] at hu
   obtain⟨w,h2,h3⟩:=O.loc _ h1 j y u hy hu hk;have:y≠x:=by
    rintro rfl;exact hj (jq W.once hy hi)
   exact⟨w,by simp[this,h2],h3⟩
 ·obtain⟨a,h1,h2,h3⟩:=O.cell j y hy hk
  refine⟨a,h1,h2,fun u hu => ?_⟩
  have hj:j≠i:=by rintro rfl;injection hi.symm.trans hy with hy;subst hy;exact hk hx
  rw[OP (PF hj)] at hu;obtain⟨w,h4,h5⟩:=h3 u hu;exact⟨w,dO (kk _ (ne _ _ h2 (by simp))) h4,h5⟩
theorem mW{τ θ s}{i:Nat}{x:Str}{pos:W7}{P:Unit->Shared->Prop}{E:Value->Shared->Prop}(S:SR c τ θ ρ Γ s)(hi:c.ns[i]?=some x)(hl:c.env.kindOf x=some .local)(k : ∀s',SR c τ θ (ρ.set i none) Γ s'->P () s'):
  N5 (M' PG c.w) c.A (do Vu c.env x .none;Vq c.env x pos) P E s:=by
 obtain⟨σ,O⟩:=S.own;obtain⟨mv,h3⟩:=O.at_ _ _ O.fr;refine wpAny_nameGoes_keeps hl h3 (by rw[S.wf.kind];rfl) fun h' v hn hs=>k _ ⟨S.wf,by rw[PS];exact S.rl,⟨σ,?_⟩,S.base,S.gens,S.os⟩
 refine O.forget S.wf (v:=v) hi hl hs fun mv' hmv => ?_
 obtain rfl:=fq hmv h3;exact⟨v,hn⟩
noncomputable def Cx.cD(c:Cx)(n:Nat)(a:Addr):Cx:={c with A:=c.A.mark (some (.ref a)),hd:=some (n,a)}
theorem Ci{n:Nat}{a:Addr}(W:c.WF):(c.cD n a).WF:=⟨W.base,W.kind,W.globals,W.builtins,W.eL,W.cX,W.vars,W.once,W.n7,W.fK,W.dW,W.above,W.depth,W.units,W.frames⟩
theorem uR{τ θ s}{n:Nat}{a:Addr}(S:SR c τ θ ρ Γ s)(h:θ[n]?=some a):SR (c.cD n a) τ θ ρ Γ s:=by
 obtain⟨σ,K⟩:=S.own;exact⟨Ci S.wf,S.rl,⟨σ,⟨K.at_,K.bp,K.fr,K.loc,K.cell,K.held,⟨K.len.eq,fun k a' e=>by cases e;exact h⟩,K.inj,K.eo,K.d6⟩⟩,S.base,S.gens,S.os⟩
theorem nR{τ θ s}{n:Nat}{a:Addr}(W:c.WF)(S:SR (c.cD n a) τ θ ρ Γ s)(h : ∀(k:Nat) (a:Addr),c.hd=some (k,a)->θ[k]?=some a):SR c τ θ ρ Γ s:=by
 obtain⟨σ,K⟩:=S.own;exact⟨W,S.rl,⟨σ,⟨K.at_,K.bp,K.fr,K.loc,K.cell,K.held,⟨K.len.eq,h⟩,K.inj,K.eo,K.d6⟩⟩,S.base,S.gens,S.os⟩
theorem SR.pin{τ θ s}(S:SR c τ θ ρ Γ s): ∀(k:Nat) (a:Addr),c.hd=some (k,a)->θ[k]?=some a:=let ⟨_,K⟩:=S.own;K.len.pin
theorem pX{α:Type}{τ θ s}{n:Nat}{a:Addr}{C fs ctx}{what:String}{Q:α->Shared->Prop}{E:Value->Shared->Prop}(S:SR c τ θ ρ Γ s)(Qg:Γ[n]?=some (some (.exc C fs ctx true)))(Pa:θ[n]?=some a)(k : ∀s',SR c τ θ ρ Γ s'->E (.ref a) s'):
  N5 (M' PG c.w) c.A (PySem.passOn what (.ref a) c.env:Su α) Q E s:=by
 obtain⟨oe,vs,h1,h2,_,h4,_,h5,x',h6,h7⟩:=S.exc Qg Pa;have hne:(x'==Value.none)=false:=by
  rw[beq_eq_false_iff_ne];rintro rfl;exact h5 rfl h6
 unfold PySem.passOn;refine u' (PW h1 h2 h6 ?_)
 rw[hne,if_neg (by simp)]
 exact u' (er S Qg Pa fun Pn OW=>TA (k _ OW))
theorem tD{τ θ s}{n:Nat}{a:Addr}{C fs ctx}{E:Value->Shared->Prop}(S:SR c τ θ ρ Γ s)(Qg:Γ[n]?=some (some (.exc C fs ctx true)))(Pa:θ[n]?=some a)(k : ∀s',SR c τ θ ρ Γ s'->E (.ref a) s'):Sy (M' PG c.w) c.A c.env E (.ref a) s:=by
 obtain⟨oe,vs,h1,h2,_,h4,_,h5,x',h6,h7⟩:=S.exc Qg Pa;have hne:(x'==Value.none)=false:=by
  rw[beq_eq_false_iff_ne];rintro rfl;exact h5 rfl h6
 refine u' (PW h1 h2 h6 ?_)
 rw[hne,if_neg (by simp)]
 exact er S Qg Pa fun Pn OW=>k _ OW
theorem zV{τ θ OJ OQ s}{n n':Nat}{a a' L:Addr}{C fs ctx t}{X:PE}(W:c.WF)(hL:c.env.frame=some L)(S:SR (c.cD n a) τ θ ρ Γ s)(l:Lq OJ OQ τ θ)(hp : ∀(k:Nat) (a:Addr),c.hd=some (k,a)->θ[k]?=some a)(Qg:Γ[n']?=some (some (.exc C fs ctx t)))(Pa:θ[n']?=some a')(hx:X n' ρ Γ):
  notedBy (M' PG c.w) (c.A.mark (some (.ref a))) c.env (Sy (M' PG c.w) c.A c.env (XP c OJ OQ X)) (.ref a') s:=
 gU (c:=c.cD n a) S hL Qg Pa fun OU Oo Oz Ot=>tD (nR W Ot hp) (dH Qg) Pa fun Pn OW=>
  ⟨Oo,θ,n',a',ρ,Γ,l.l.trans Oz,l.k,rfl,Pa,SR.jY Qg OW,⟨C,fs,ctx,t,Qg⟩,hx⟩
theorem Hw(P:Of):exmOne (KK P) (.ref 84) (.ref 84)=some true:=by kernel_rfl
theorem qI {r:Res Fl} {r0:Res Fl} {k:Fl->aq->ag->Res Fl} {kx:Nat->aq->ag->Res Fl} {t:Su W8} {τ θ s} {P:W8->Shared->Prop} {E:Value->Shared->Prop}
  (h:r≠ .no->N5 (M' PG c.w) c.A t (QP c τ θ RF r.Q) (XP c τ θ r.X) s) (hn:r.both k kx≠ .no) (e0:r0=r.both k kx)
  (K : ∀v s' Ow OT b O3 Γ',Lq τ θ Ow OT->RF Ow OT b v->SR c Ow OT O3 Γ' s'->k b O3 Γ'≠ .no->r0=k b O3 Γ'->P v s')
  (KX : ∀s' Ow OT n a O3 Γ' ex,Lq τ θ Ow OT->OT[n]?=some a->SR c Ow OT O3 Γ' s'->Γ'[n]?=some (some (Exc.mu ex))->kx n O3 Γ'≠ .no->r0=kx n O3 Γ'->E (.ref a) s'):N5 (M' PG c.w) c.A t P E s:=by
 refine Ob (h fun q=>hn (congrArg (Res.both k kx) q)) (fun v s' H => ?_) fun e s' H1 => ?_
 ·obtain⟨Ow,OT,b,O3,Γ',l1,l2,r1,S1,q⟩:=H
  have e:r.both k kx=k b O3 Γ':=congrArg (Res.both k kx) q;exact K v s' Ow OT b O3 Γ' ⟨l1,l2⟩ r1 S1 (e▸hn) (e0.trans e)
 ·obtain⟨Ow,OT,n,a,O3,Γ',l1,l2,e1,e2,S1,⟨C,fs,x,t,Qg⟩,q⟩:=H1
  have e:r.both k kx=kx n O3 Γ':=congrArg (Res.both k kx) q;exact e1▸KX s' Ow OT n a O3 Γ' ⟨C,fs,x,t⟩ ⟨l1,l2⟩ e2 S1 Qg (e▸hn) (e0.trans e)
section
variable{g gp i:Nat}{st:St}{ss:av}{ph:Nat}{x:Str}{L:Addr}{n:Nat}{a:Addr}{ex:Exc}{r0:Res Fl}{τ OJ:aF}{θ OQ:aX}{s:Shared}
 (hh:ie (c.cD n a) T O (.hold n) (.cons st ss)) (hL:c.env.frame=some L) (hi:c.ns[i]?=some x) (hl:c.env.kindOf x=some .local) (W:c.WF) (pin : ∀(k:Nat) (a:Addr),c.hd=some (k,a)->θ[k]?=some a) (l:Lq OJ OQ τ θ)
include hh hL hi hl W pin l
theorem yO(S:SR (c.cD n a) τ θ ρ Γ s)(Pa:θ[n]?=some a)(Qg:Γ[n]?=some (some ex.mu))(hn:((av.cons st ss).ex T O (.hold n) (ρ.set i (some (.loc n))) Γ).less i≠ .no)(e:r0=((av.cons st ss).ex T O (.hold n) (ρ.set i (some (.loc n))) Γ).less i):
  SP (M' PG c.w) (c.A.mark (some (.ref a))) (.handlers (.ref a) [.ExceptHandler none (some x) ((av.cons st ss).back T c.ns) (aK ph)] c.env) (fun r Pn=>match r with
     | .ok f=>N5 (M' PG c.w) c.A (do Vu c.env x .none;Vq c.env x (aK ph)) (fun _ PY=>QP c OJ OQ RF r0.Q f PY) (XP c OJ OQ r0.X) Pn
     | .error x=>Sy (M' PG c.w) c.A c.env (XP c OJ OQ r0.X) x Pn) s:=by
 refine codeAny_handlers_suite_as (er (c:=c.cD n a) S Qg Pa fun Tu Uh=>iw (c:=c.cD n a) Uh (d := .loc n) (v := .ref a) ⟨a,rfl,Pa⟩ hi (by show c.env.kindOf x≠_;rw[hl];nofun) fun Xr Ss => ?_)
 refine Ob ((hh _ _).run (fun q=>hn (congrArg (Res.less i) q)) Ss) (fun f Xl H => ?_) fun e' Xl H1 => ?_
 ·obtain⟨V7,V8,fl,Xw,Xx,j1,j2,Yx,Ui,Wy⟩:=H
  exact mW (nR W Ui fun k a e=>j2 _ _ (pin k a e)) hi hl fun Xm Tw => .fin (l.trans ⟨j1,j2⟩) (R:=RF) Yx Tw (e.trans (congrArg (Res.less i) Wy))
 ·obtain⟨V7,V8,YW,YX,Xw,Xx,j1,j2,e8,f8,Ui,⟨C8,fs8,ctx8,t8,VK⟩,Wy⟩:=H1
  subst e8;refine gU (c:=c.cD n a) Ui hL VK f8 fun Xm V9 UG Tw=>mW (c:=c.cD n a) Tw hi hl fun VG R4=>pX (c:=c.cD n a) R4 (dH VK) f8 fun XZ VL => ?_
  exact zV W hL (SR.jY VK VL) (l.trans ⟨j1.trans UG,j2⟩) (fun k a e=>j2 _ _ (pin k a e)) VK f8 (e.trans (congrArg (Res.less i) Wy))
theorem vT (hC:SE (c.cD n a) T O .free (.glob g gp)) (S:SR (c.cD n a) τ θ ρ Γ s) (Pa:θ[n]?=some a) (Qg:Γ[n]?=some (some ex.mu))
  (hn:(((Ex.glob g gp).ev O .free T ρ Γ).bind fun c ρ Γ => .aT (i8 Γ n) fun e => .aT c.fu fun C=>cond (I' C e.C) (((av.cons st ss).ex T O (.hold n) (ρ.set i (some (.loc n))) Γ).less i) .no)≠ .no)
  (e:r0=((Ex.glob g gp).ev O .free T ρ Γ).bind fun c ρ Γ => .aT (i8 Γ n) fun e => .aT c.fu fun C=>cond (I' C e.C) (((av.cons st ss).ex T O (.hold n) (ρ.set i (some (.loc n))) Γ).less i) .no) :
  N5 (M' PG c.w) c.A (handleBy (.ref a) c.env [.ExceptHandler (some ((Ex.glob g gp).back T c.ns)) (some x) ((av.cons st ss).back T c.ns) (aK ph)]) (QP c OJ OQ RF r0.Q) (XP c OJ OQ r0.X) s:=by
 obtain⟨z,hz,hev⟩:=ig (iR hn) rfl;refine bt (fun q=>hn ((congrArg (Res.bind · _) hev).trans q)) (e.trans (congrArg (Res.bind · _) hev)) fun ex' hg' Px O6=>bt Px O6 fun C hC' RI Qt=>eE RI Qt fun qC Tt Si => ?_
 refine wpAny_handleBy_cons (codeAny_handlers_test (fA (Ob ((hC ρ Γ).ok hev S) (fun u Ue H => ?_) fun _ _ x=>x))) nofun
 obtain⟨V3,V4,Ug,VM,SH⟩:=H;have e2':=Ug.k _ _ Pa;obtain⟨hC84,LT,_,_⟩:=gu SH e2' (dS hg');rw[V.gS hC',N2 qC,hC84] at VM;subst VM;refine(exm_one SH.K LT (Hw _)).here ?_
 rw[if_pos rfl];exact yO hh hL hi hl W (fun k a e=>Ug.k _ _ (pin k a e)) (l.trans Ug) SH e2' Qg Tt Si
end
theorem FJ{b:av}{g gp i:Nat}{st:St}{ss:av}{ph p:Nat}{x:Str}{L:Addr}(hb:ie c T O .free b)(hC : ∀n a,SE (c.cD n a) T O .free (.glob g gp))(hh : ∀n a,ie (c.cD n a) T O (.hold n) (.cons st ss))(hL:c.env.frame=some L)(hi:c.ns[i]?=some x)(hl:c.env.kindOf x=some .local):
  SS c T O .free (.gQ b (.glob g gp) i (.cons st ss) ph p):=fun ρ Γ => .of fun τ θ s hn S=>
 gb (congrArg (fun y=>exec (.Try (b.back T c.ns) [.ExceptHandler (some ((Ex.glob g gp).back T c.ns)) (some y) ((av.cons st ss).back T c.ns) (aK ph)] [] [] (aK p)) c.env) (iS hi))
  (wpAny_Try_except (qI (k := .ok) (fun hn=>(hb ρ Γ).run hn S) hn rfl (fun f OU Oo OC fl Od Oj Oz OL Ot n₁ OA=>by
   cases f with
   |next=>exact Q5 (.fin Oz (R:=RF) OL Ot OA)
   |_=>exact .fin Oz (R:=RF) OL Ot OA) fun OU Oo OC n a Od Oj ex Oz e2 Ot Qg n₁ OA=>
   gU Ot hL Qg e2 fun Pn Pu PI OW=>er OW (dH Qg) e2 fun PY QQ=>
    vT (hh n a) hL hi hl S.wf QQ.pin (Oz.trans ⟨PI,.refl _⟩) (hC n a) (uR (SR.jY Qg QQ) e2) e2 Qg n₁ OA))
end
section
theorem Bh{τ Ow θ OT fl f}(l:Lq τ θ Ow OT)(h:RF τ θ fl f):RF Ow OT fl f:=by
 cases fl with
 |ret d=>obtain⟨u,h1,h2⟩:=h;exact⟨u,h1,VV.mono l.l l.k h2⟩
 |_=>exact h
theorem qd{f:Fl}(h:f.sH=true):f = .next:=by
 cases f with
 |next=>rfl
 |_=>exact H' h
theorem Ew{b:av}{st:St}{ss:av}{p:Nat}{L:Addr}(hb:ie c T O .free b)(hf:ie c T O .free (.cons st ss))(hh : ∀n a,ie (c.cD n a) T O (.hold n) (.cons st ss))(hL:c.env.frame=some L):
  SS c T O .free (.iJ b (.cons st ss) p):=fun ρ Γ => .of fun τ θ s hn S=>
 wpAny_Try_finally (qI (fun hn=>(hb ρ Γ).run hn S) hn rfl (fun f OU Oo OC fl Od Oj Oz OL Ot n₁ OA=>by
  have:=rJ ((hf Od Oj).go (P:=fun g s'=>match g with | .next=>QP c τ θ RF ((St.iJ b (.cons st ss) p).ex T O .free ρ Γ).Q f s' | g=>QP c τ θ RF ((St.iJ b (.cons st ss) p).ex T O .free ρ Γ).Q g s') n₁ Ot Oz (fun g Pn Pu O5 gl PJ PA PI m₂ PX OW Px O6=>eE Px O6 fun q _ Qt=>by
   cases qd q
   cases PX;exact .fin PI (R:=RF) (b:=fl) (Bh m₂ OL) OW Qt) OA) (mz hL)
  cases f with
  |next=>exact Q5 this
  |_=>exact this) fun OU Oo OC n a Od Oj ex Oz e2 Ot Qg n₁ OA=>bt n₁ OA fun ex' hg Px O6=>by
  refine gU Ot hL Qg e2 fun Pn Pu PI OW=>And.intro nofun ?_
  refine gU OW hL (dH Qg) e2 fun PY Rg RO QQ=>er QQ (dH (dH Qg)) e2 fun Sg Sh => ?_
  have he:ex.mu=ex'.mu:=j' (j' (Qg.symm.trans (fh (dS hg))));rw[WN] at Sh;cases ex;cases ex';cases he;refine Ob ((hh n a _ _).go Px (uR Sh e2) (Oz.trans ⟨PI.trans RO,.refl _⟩) (fun g Ue V3 V4 gl V5 V6 Ug Ve VM SH Wt TQ=>eE Wt TQ fun q Xi Wu=>bt Xi Wu fun ex5 hg5 Yy Yz=>eE Yy Yz fun qt _ YA => ?_) O6) (fun _ _ x=>x) fun e s' H => ?_
  ·cases qd q
   cases VM;obtain⟨C5,fs5,x5,t5⟩:=ex5
   cases qt;exact pX (nR S.wf SH fun k a e=>Ve.k _ _ (Sh.pin k a e)) (fh (dS hg5)) (Ve.k _ _ e2) fun Tu Uh => .fin Ug Uh (Ve.k _ _ e2) (fh (dS hg5)) YA
  ·obtain⟨Ow,OT,n',a',O3,Γ',j1,j2,f1,f2,S',⟨C',fs',ctx',t',YB⟩,x⟩:=H
   subst f1;exact zV S.wf hL S' ⟨j1,j2⟩ (fun k a e=>j2 _ _ (S.pin k a e)) YB f2 x)
end
section
theorem CJ{l:List D}(h:l.length=2): ∃a b,l=[a,b]:=by
 cases l with
 |nil=>exact nomatch h
 |cons a l=>cases l with
  |nil=>exact nomatch h
  |cons b l=>cases l with
   |nil=>exact⟨a,b,rfl⟩
   |cons c l=>exact nomatch h
theorem FW {i j p1 p2 pt p:Nat} {e:Ex} {x y:Str} (he:SE c T O m e) (hm:m.b=true->c.A.handled=none) (hij:i≠j) (hi:c.ns[i]?=some x) (hj:c.ns[j]?=some y) (hx:c.env.kindOf x≠some .free) (hy:c.env.kindOf y≠some .free)
  (hs : ∀t l,Qi [t] (e.back T c.ns) l c.env=pure false) (hw:Qu [(Ex.tup (.cons (.var i p1) (.cons (.var j p2) .nil)) pt).back T c.ns] (e.back T c.ns) c.env=pure (some [x,y])) :
  SS c T O m (.asg (.tup (.cons (.var i p1) (.cons (.var j p2) .nil)) pt) e p):=fun ρ Γ => .of fun τ θ s hn S=>by
 show N5 _ _ (exec (.Assign [(Ex.tup (.cons (.var i p1) (.cons (.var j p2) .nil)) pt).back T c.ns] (e.back T c.ns) (aK p)) c.env) _ _ s
 generalize (Ex.tup (.cons (.var i p1) (.cons (.var j p2) .nil)) pt).back T c.ns=tt at hw ⊢;show N5 _ _ (do
   SO (aK p)
   if<-Qi [tt] (e.back T c.ns) (aK p).line c.env then do
    Vs (e.back T c.ns) c.env fun v=>W4 v ((PR [tt] c.env).map (·.2))
    pure .next
   else do
    let v<-Q7 (e.back T c.ns) c.env
    SQ c.env v (<-Qu [tt] (e.back T c.ns) c.env) ((PR [tt] c.env).map (·.2))) _ _ s
 refine u' (PN ?_)
 rw[hs,hw];refine u' (J' ?_)
 rw[if_neg (by simp)]
 refine u' ((he ρ Γ).go hn S (.refl _ _) fun u OU Oo OC d Od Oj Oz _ OL Ot n₁ OA=>u' (J' ?_))
 unfold SQ;refine bt (iR n₁) (rfl:(Ex.tup (.cons (.var i p1) (.cons (.var j p2) .nil)) pt).bC O m T d Od Oj=_) fun l hl Px O6=>eE Px O6 fun q RI Qt=>u' (wpAny_rule ?_)
 obtain⟨hmb,ql⟩:=Ol.mp q;obtain⟨_,h1,h2⟩:=V.of_eq hl;subst h1;obtain rfl:=D.gR h2;obtain⟨d1,d2,rfl⟩:=CJ (N2 ql).symm;obtain⟨a,rfl,ht⟩:=OL;obtain⟨vs,t1,t2⟩:=Ot.fY ht;obtain⟨v1,r,hv,b1,b2⟩:=t2.dN;obtain⟨v2,r',hv2,b3,b4⟩:=b2.dN;cases b4.gh;subst hv2;have hz:vs.size=[x,y].length:=by rw[<-PH,hv];rfl
 rw[<-hz];refine u' (wpAny_unpackItems_tuple (hm hmb) t1 fun h' hx' => ?_)
 rw[hv];have OW:SR c Oo OC Od Oj {OU with heap:=h'}:=Ot.heap OU.toks fun σ K=>K.keeps fun b o e=>hx' b o (PK (PC e)) e
 show N5 _ _ (Uv [fun v=>Vu c.env y v,fun v=>Vu c.env x v] [v2,v1]>>=fun _=>pure Yc) _ _ _
 refine u' (RD (X3 (iw OW (d := .d d2) b3 hj hy fun PY QQ=>RD (X3 (iw QQ (d := .d d1) b1 hi hx fun Sg Sh=>Ut (J' (.fin Oz (R:=RF) (b:=Fl.next) rfl Sh ?_)))))))
 rw[List.set_comm _ _ (PF hij)];exact OA.trans (congrArg (Res.bind · _) Qt)
end
section
theorem D7{x y:Tx}{px q p:Nat}:SE c T O m (.rK x px (.str y q) p):=fun ρ Γ => .of fun τ θ s hn S=>by
 refine wpAny_Dict_walk (knd:=PySem.strKind PG c.w) rfl rfl (by simp) (by simp) ?_
 refine pairTrees_cons_walk (U5 (U5 (pairTrees_nil_walk ?_)))
 have Ot:SR c τ (θ++[s.heap.objs.size]) ρ (Γ++[some (.sd [])]) {s with heap:=s.heap.push {cls := .type "dict",data := .dict #[]}}:=S.rV s.toks fun σ=>⟨[],gI _,trivial⟩
 have hth:θ.length=Γ.length:=S.th;refine⟨strPairs _,carries_strPairs PG c.w _ rfl,gI _,fun h' hd hs => ?_⟩
 rw[merged_nil_of_nodup _ (by simp[strPairs])] at hd
 exact .fin (.mk (.refl _) (.app _ _)) (R:=RV) (b := .loc Γ.length) ⟨_,rfl,by rw[<-hth];simp⟩ (Ot.uQ (n:=Γ.length) (m' := .sd [(x,.str y)]) _ (by rw[<-hth];simp) (m := .sd []) (by simp[bq]) hs fun σ=>⟨_,hd,⟨rfl,⟨_,rfl⟩,trivial⟩⟩) (by rw[RL _ _ (Ox _),P6];rfl)
end
noncomputable abbrev Kinds:=List (Str×NameKind)
structure dX where
 gt:List (Str×Value)
 um:List Nat
 oi:List (Addr×Nat)
noncomputable def fP:Option Bool->Bool
 |some b=>b
 |none=>false
theorem cK{o:Option Bool}(h:fP o=true):o=some true:=by
 cases o with
 |none=>exact H' h
 |some b=>exact congrArg some h
noncomputable def Value.Js:Value->Option String
 | .builtin a=>some a
 |_=>none
noncomputable def Value.Jf:Value->Option String
 | .type a=>some a
 |_=>none
noncomputable def uK(a b:Value):Bool:=match a with
 | .ref a=>fP ((Value.fu b).map (I' a))
 | .builtin a=>fP ((Value.Js b).map fun b=>decide (a=b))
 | .type a=>fP ((Value.Jf b).map fun b=>decide (a=b))
 |_=>false
theorem Value.gS{v:Value}{a}(h:Value.fu v=some a):v = .ref a:=by
 cases v with
 |ref b=>exact congrArg Value.ref (j' h)
 |_=>exact aE h
theorem Value.Gi{v:Value}{a}(h:Value.Js v=some a):v = .builtin a:=by
 cases v with
 |builtin b=>exact congrArg Value.builtin (j' h)
 |_=>exact aE h
theorem Value.Eu{v:Value}{a}(h:Value.Jf v=some a):v = .type a:=by
 cases v with
 |type b=>exact congrArg Value.type (j' h)
 |_=>exact aE h
theorem lj{a b:Value}(h:uK a b=true):a=b:=by
 cases a with
 |ref a=>obtain⟨x,h1,h2⟩:=aJ (cK h);rw[Value.gS h1,N2 h2]
 |builtin a=>obtain⟨x,h1,h2⟩:=aJ (cK h);rw[Value.Gi h1,of_decide_eq_true h2]
 |type a=>obtain⟨x,h1,h2⟩:=aJ (cK h);rw[Value.Eu h1,of_decide_eq_true h2]
 |_=>exact H' h
theorem a1{x y:Bool}(h:(x&&y)=true):x=true:=(Ol.mp h).1
theorem a2{x y:Bool}(h:(x&&y)=true):y=true:=(Ol.mp h).2
theorem gf{x:Bool}(h:(!x)=true):x=false:=by
 cases x with
 |false=>rfl
 |true=>exact H' h
noncomputable def Ex.named(e:Ex):Bool:=I' e.ctorIdx 6||I' e.ctorIdx 4
noncomputable def Ex.oY(e:Ex):Bool:=I' e.ctorIdx 29
noncomputable def Ex.va:Ex->Option Nat:=Ex.pick Oi (fun _=>Oi) (fun _ _=>Oi) some (fun _ _=>Oi) fun _ _=>Oi
noncomputable def oU(T:Tab)(f:Ex)(v:Value):Bool:=fP (f.va.bind fun g=>(T.gn[g]?).bind fun q=>q.2.val?.map fun w=>uK w v)
noncomputable def wu(L:dX)(T:Tab)(f:Ex)(C:Nat):Bool:=match C with
 |0=>oU T f (.type "Exception")
 |k+1=>L.oi.any fun p=>I' p.2 k&&oU T f (.ref p.1)
noncomputable def dB(S:Kinds)(names:Kinds):Kinds:=names.map fun(n,k)=>if (k==O0&&S.lookup n==some .cell) then(n,Pg) else(n,k)
noncomputable def u4(L:dX)(S:Kinds)(q:Str×D):Bool:=fP (q.2.val?.map fun v=>(S.lookup q.1==some .globalImplicit)&&L.gt.any fun r=>r.1==q.1&&uK r.2 v)
noncomputable def lF:List Str->Bool
 | []=>true
 |x::r => !(r.contains x)&&lF r
noncomputable def sS(S:Kinds)(ns:List Str)(sc:QC)(locs:List Str)(aA:List Nat):Bool:=
 (sc.kind == .function)&&(sc.names.all fun x=>(!(x.2 == .local)||sc.names.lookup x.1==some .local) && !(x.1==("__debug__":Str)) && !(x.1==("__classdict__":Str))) &&
 (locs.all fun x=>sc.names.lookup x==some .local||sc.names.lookup x==some .cell) &&
 (aA.all fun i=>fP ((ns[i]?).map fun x=>sc.names.lookup x==some .free&&S.lookup x==some .cell&&sc.names.all fun p => !(p.1==x) || !(p.2 == .cell))) &&
 (sc.names.all fun p => !(p.2 == .free)||aA.any fun i=>ns[i]?==some p.1)&&lF (inner ns locs aA)
noncomputable def sO(S:Kinds)(ns:List Str):Bool:=ns.all fun x => !(S.lookup x==some .free)
mutual
noncomputable def Ex.aB(L:dX):Ex->Tab->Kinds->List Str->Nat->Bool
 | .none _,T,S,ns,k=>true
 | .bool _ _,T,S,ns,k=>true
 | .int _ _,T,S,ns,k=>true
 | .str _ _,T,S,ns,k=>true
 | .var _ _,T,S,ns,k=>true
 | .jL i _,T,S,ns,k=>OI i k
 | .glob _ _,T,S,ns,k=>true
 | .bin _ a b _,T,S,ns,k=>a.aB L T S ns k&&b.aB L T S ns k
 | .cmp op a b _,T,S,ns,k=>a.aB L T S ns k&&b.aB L T S ns k && !(QZ op (b.back T ns))
 | .ny es _,T,S,ns,k=>es.aB L T S ns k
 | .tY es _,T,S,ns,k=>es.aB L T S ns k
 | .neg a _,T,S,ns,k=>a.aB L T S ns k
 | .oV t a b _,T,S,ns,k=>t.aB L T S ns k&&a.aB L T S ns k&&b.aB L T S ns k
 | .tup es _,T,S,ns,k=>es.aB L T S ns k
 | .lst es _,T,S,ns,k=>es.aB L T S ns k
 | .nz _,T,S,ns,k=>true
 | .sE _ _,T,S,ns,k=>true
 | .rK _ _ e _,T,S,ns,k=>e.yy.isSome
 | .sub a i _,T,S,ns,k=>a.aB L T S ns k&&i.aB L T S ns k
 | .pk a i _ _,T,S,ns,k=>a.aB L T S ns k&&i.aB L T S ns k
 | .pQ a i _ _,T,S,ns,k=>a.aB L T S ns k&&i.aB L T S ns k
 | .ni a i j _ _,T,S,ns,k=>a.aB L T S ns k&&i.aB L T S ns k&&j.aB L T S ns k
 | .attr a _ _,T,S,ns,k=>a.aB L T S ns k&&a.based
 | .call _ f _ es _,T,S,ns,k=>f.aB L T S ns k&&f.named&&es.aB L T S ns k
 | .gH b f es _,T,S,ns,k=>oU T f b.val&&es.aB L T S ns k
 | .new _ f es _,T,S,ns,k=>f.aB L T S ns k&&f.named&&es.aB L T S ns k
 | .jz a _ es pa p,T,S,ns,k=>a.aB L T S ns k&&a.based&&es.aB L T S ns k&&OI es.len 30&&((aK pa).endLine==(aK p).line)
 | .mE a q es pa p,T,S,ns,k=>a.aB L T S ns k&&a.based&&es.aB L T S ns k&&OI es.len 30&&((aK pa).endLine==(aK p).line)&&L.um.contains q
 | .init a C es pa p,T,S,ns,k=>es.aB L T S ns k&&OI es.len 30&&((aK pa).endLine==(aK p).line)&&wu L T a C
 | .comp elt tgt it ifs locs aA gk sc _,T,S,ns,k=>it.aB L T S ns k&&sS S ns sc locs aA&&gk.all (u4 L (dB S sc.names))&&sO (dB S sc.names) (inner ns locs aA) &&
   elt.aB L (T.sub gk) (dB S sc.names) (inner ns locs aA) locs.length&&tgt.dZ L (T.sub gk) (dB S sc.names) (inner ns locs aA) locs.length&&ifs.aB L (T.sub gk) (dB S sc.names) (inner ns locs aA) locs.length
noncomputable def Ex.dZ(L:dX):Ex->Tab->Kinds->List Str->Nat->Bool
 | .var i _,T,S,ns,k=>OI i k
 | .tup es _,T,S,ns,k=>es.dZ L T S ns k
 | .attr a n _,T,S,ns,k=>a.aB L T S ns k&&OI n 26
 | .sub a i _,T,S,ns,k=>a.aB L T S ns k&&i.aB L T S ns k
 |_,T,S,ns,k=>false
noncomputable def bf.aB(L:dX):bf->Tab->Kinds->List Str->Nat->Bool
 | .nil,T,S,ns,k=>true
 | .cons e es,T,S,ns,k=>e.aB L T S ns k&&es.aB L T S ns k
noncomputable def bf.dZ(L:dX):bf->Tab->Kinds->List Str->Nat->Bool
 | .nil,T,S,ns,k=>true
 | .cons e es,T,S,ns,k=>e.dZ L T S ns k&&es.dZ L T S ns k
noncomputable def Te.aB(L:dX):Te->Tab->Kinds->List Str->Nat->Bool
 | .val e,T,S,ns,k=>e.aB L T S ns k&&e.plainT
 | .not t _,T,S,ns,k=>t.aB L T S ns k
 | .and ts _,T,S,ns,k=>ts.aB L T S ns k
 | .or ts _,T,S,ns,k=>ts.aB L T S ns k
 | .chain a o1 b o2 d _,T,S,ns,k=>a.aB L T S ns k&&b.aB L T S ns k&&d.aB L T S ns k && !(lastMarks [o1,o2] [b.back T ns,d.back T ns])
noncomputable def bY.aB(L:dX):bY->Tab->Kinds->List Str->Nat->Bool
 | .nil,T,S,ns,k=>true
 | .cons t ts,T,S,ns,k=>t.aB L T S ns k&&ts.aB L T S ns k
end
noncomputable def Ex.var?:Ex->Option (Nat×Nat):=Ex.pick Oi (fun _=>Oi) (fun i p=>some (i,p)) (fun _=>Oi) (fun _ _=>Oi) fun _ _=>Oi
noncomputable def Ex.ju:Ex->Option (bf×Nat):=Ex.pick Oi (fun _=>Oi) (fun _ _=>Oi) (fun _=>Oi) (fun es p=>some (es,p)) fun _ _=>Oi
noncomputable def Ex.isInt(e:Ex):Bool:=I' e.ctorIdx 2
noncomputable def bf.one?:bf->Option Ex
 | .cons e es=>cond es.isNil (some e) none
 |_=>none
noncomputable def bf.vn:bf->Option (Ex×Ex)
 | .cons e es=>es.one?.map fun b=>(e,b)
 |_=>none
noncomputable def Ex.I8:Ex->Option (QC×Nat):=Ex.pick Oi (fun _=>Oi) (fun _ _=>Oi) (fun _=>Oi) (fun _ _=>Oi) fun sc pc=>some (sc,pc)
noncomputable def AA(t e:Ex)(S:Kinds)(ns:List Str):Bool:=fP (t.var?.bind fun v=>e.I8.map fun q=>(S.lookup (ns.getD v.1 "")==some .local)&&((aK v.2).line==(aK q.2).line) && !(q.1.names.any fun x=>x.1==ns.getD v.1 ""&&(x.2 == .local||x.2 == .cell)))
noncomputable def Fi(ns:List Str):Ex->Bool
 | .gH .. => true
 | .var q _ => !(ns.getD q ""==("__debug__":Str))
 |_=>false
noncomputable def AK(t e:Ex)(S:Kinds)(ns:List Str):Bool:=fP (t.ju.bind fun t=>t.1.vn.bind fun ab=>ab.1.var?.bind fun i=>ab.2.var?.bind fun j=>e.ju.bind fun e=>e.1.vn.map fun uv=>
  uv.1.isInt&&Fi ns uv.2&&OI i.1 ns.length&&OI j.1 ns.length&&(S.lookup (ns.getD i.1 "")==some .local)&&(S.lookup (ns.getD j.1 "")==some .local)&&((aK i.2).line==(aK j.2).line) && !(ns.getD i.1 ""==ns.getD j.1 ""))
noncomputable def bf.ints:bf->Bool
 | .nil=>true
 | .cons e es=>e.isInt&&es.ints
noncomputable def w8(t e:Ex):Bool := !e.oY && !fP (t.ju.bind fun _=>e.ju.map fun q => !q.1.ints)
noncomputable def av.isNil:av->Bool
 | .nil=>true
 |_=>false
mutual
noncomputable def St.aB(L:dX)(T:Tab)(S:Kinds)(ns:List Str):St->Bool
 | .expr e _=>e.aB L T S ns ns.length && !e.oY
 | .asg t e _=>e.aB L T S ns ns.length&&t.dZ L T S ns ns.length&&(AA t e S ns||AK t e S ns||w8 t e)
 | .aug i _ e _ _=>e.aB L T S ns ns.length&&OI i ns.length
 | .jw a n _ e _ _=>a.aB L T S ns ns.length&&e.aB L T S ns ns.length&&OI n 26
 | .ifs t a b _=>t.aB L T S ns ns.length&&a.aB L T S ns&&b.aB L T S ns
 | .nZ t b _=>t.aB L T S ns ns.length&&b.aB L T S ns
 | .kz t it b _=>t.dZ L T S ns ns.length&&it.aB L T S ns ns.length&&b.aB L T S ns
 | .ret e _=>e.aB L T S ns ns.length
 | .nN _=>true
 | .nF e _=>e.aB L T S ns ns.length
 | .gQ b C i h _ _=>b.aB L T S ns&&h.aB L T S ns&&C.va.isSome && !h.isNil&&OI i ns.length&&(S.lookup (ns.getD i "")==some .local)
 | .iJ b f _=>b.aB L T S ns&&f.aB L T S ns && !f.isNil
 | .brk _=>true
noncomputable def av.aB(L:dX)(T:Tab)(S:Kinds)(ns:List Str):av->Bool
 | .nil=>true
 | .cons s ss=>s.aB L T S ns&&ss.aB L T S ns
end
end Mine
end
section
namespace Mine
noncomputable def MK:List (Str×Value):=[(s "Raised",Value.ref 84),(s "error",Value.ref 139),(s "len",Value.builtin "len"),(s "listing",Value.ref 153),(s "ord",Value.builtin "ord"),(s "digit",Value.ref 202),(s "is_blank",Value.ref 195),(s "base_of",Value.ref 216),(s "digits_value",Value.ref 209),(s "whole_of",Value.ref 223),(s "bool_of",Value.ref 230),(s "chr",Value.builtin "chr"),(s "hex_sign",Value.ref 244),(s "octal_sign",Value.ref 251),(s "check_behind",Value.ref 265),(s "backslash",Value.ref 258),(s "braced_element",Value.ref 272),(s "quoted_element",Value.ref 279),(s "bare_element",Value.ref 286),(s "find_element",Value.ref 293),(s "mode_of",Value.ref 307),(s "escaped",Value.ref 314),(s "quote",Value.ref 322),(s "split_list",Value.ref 300),(s "dict_fault",Value.ref 336),(s "range",Value.type "range"),(s "join_list",Value.ref 329),(s "in_set",Value.ref 357),(s "folded",Value.ref 378),(s "put_places",Value.ref 371),(s "behind_one",Value.ref 364),(s "note_row",Value.ref 174),(s "str",Value.type "str"),(s "wrong_args",Value.ref 146),(s "two_names",Value.ref 393),(s "dict_of",Value.ref 343),(s "run_pair",Value.ref 400),(s "text_of_dict",Value.ref 350),(s "need_bool",Value.ref 237),(s "fits",Value.ref 386)]
noncomputable def Mf:List (Str×Value):=[(s "pick",Value.ref 160),(s "filter_script",Value.ref 407),(s "fits_one",Value.ref 414),(s "Var",Value.ref 438),(s "_law_atoms",Value.ref 688),(s "_law_put",Value.ref 707),(s "_law_truths",Value.ref 695),(s "_law_watched",Value.ref 740),(s "_law_look",Value.ref 745),(s "_law_write",Value.ref 752),(s "dict_filter",Value.ref 421),(s "_law_out",Value.ref 773),(s "_law_book",Value.ref 792),(s "_law_change",Value.ref 799),(s "_law_noted",Value.ref 787),(s "_law_dict",Value.ref 712),(s "_law_pass",Value.ref 733),(s "_law_cell",Value.ref 702),(s "_law_names",Value.ref 726),(s "SmallHost",Value.ref 679),(s "_law_run",Value.ref 759),(s "_law_wrong",Value.ref 780),(s "isinstance",Value.builtin "isinstance"),(s "tuple",Value.type "tuple"),(s "_law_passes",Value.ref 804),(s "_law_done",Value.ref 766),(s "_law_fits",Value.ref 828),(s "any",Value.builtin "any"),(s "_law_takes",Value.ref 823),(s "_law_pieces",Value.ref 816),(s "_law_patterns",Value.ref 835),(s "_law_drawn",Value.ref 719),(s "_law_script",Value.ref 809),(s "_law_look_through",Value.ref 840),(s "Exception",Value.type "Exception"),(s "Misused",Value.ref 51),(s "Host",Value.ref 523),(s "var_in",Value.ref 541),(s "no_variable",Value.ref 534),(s "put_value",Value.ref 548)]
noncomputable def LB:dX:=⟨MK++Mf,[68,69,71,72,73,74,75,76,77],[(523,67)]⟩
noncomputable def KC:List Nat:=[8,9,10,11,13,17,18,19,20,21,22,23,25,26,27,29,30,31,32,33,34,35,36,37,38,40,41,42,44,45,46,48,50,51,52,53,54,60,61,66,67,68,69,70,71,72,73,74,75,76,77,78,79,80,81,82,83,84,85,86,87,88,89,90,91,1005,1056,1058,2058,5058,1064,2064,3064,4064,5064,6064,7064,8064]
noncomputable def MN(c:Nat):Stmt:=cond (OI c 1000) (bj c) (dE (c % 1000) (c/1000-1))
noncomputable def MA:Stmt->Kinds
 | .FunctionDef _ _ _ _ _ _ sc _ _ _=>sc.names
 |_=>[]
noncomputable def kR(k:Nat):Kinds:=MA (MN (KC.getD k 0))
end Mine
end
section
open PyProof
namespace Mine
section
section
variable{α β:Type}{k:Nat}{ρ:aq}{Γ:ag}
theorem Fix.ok{a:α}:Fix k ρ (.ok a ρ Γ):=fun _ _ _ e j _=>by cases e;rfl
theorem Fix.no:Fix k ρ (Res.no:Res α):=fun _ _ _ e=>by injection e
theorem Fix.ex{n:Nat}{O3:aq}:Fix k ρ (Res.ex n O3 Γ:Res α):=fun _ _ _ e=>by injection e
theorem Fix.opt{o:Option α}:Fix k ρ (Res.opt ρ Γ o):=by cases o<;>first | exact Fix.ok | exact Fix.no
theorem Fix.res{g:RG}:Fix k ρ (g.res ρ):=by cases g<;>first | exact Fix.ok | exact Fix.no | exact Fix.ex
theorem Fix.set{a:α}{i:Nat}{o:Option V}(h:i<k):Fix k ρ (.ok a (ρ.set i o) Γ):=fun _ _ _ e j hj=>by
 cases e;rw[OP (PK (Rb h hj))]
theorem Fix.bind{r:Res α}{f:α->aq->ag->Res β}(h:Fix k ρ r)(hf : ∀a ρ Γ,Fix k ρ (f a ρ Γ)):Fix k ρ (r.bind f):=fun b O3 Γ' e j hj=>by
 obtain⟨a,Od,Oj,e1,e2⟩:=j7 e;exact(hf a Od Oj b O3 Γ' e2 j hj).trans (h a Od Oj e1 j hj)
theorem Fix.aT{o:Option β}{f:β->Res α}(h : ∀a,Fix k ρ (f a)):Fix k ρ (Res.aT o f):=by
 cases o with
 |none=>exact Fix.no
 |some a=>exact h a
end
theorem bS{α:Type}{k:Nat}{ρ:aq}{b:Bool}{x y:Res α}(h1:Fix k ρ x)(h2:Fix k ρ y):Fix k ρ (cond b x y):=by cases b<;>assumption
variable{L:dX}{O:aL}{m:Md}
def FX(L:dX)(O:aL)(m:Md)(e:Ex):Prop := ∀T S ns k,(e.aB L T S ns k=true->∀ρ Γ,Fix k ρ (e.ev O m T ρ Γ))/\(e.dZ L T S ns k=true->∀v ρ Γ,Fix k ρ (e.bC O m T v ρ Γ))
def JF(L:dX)(O:aL)(m:Md)(es:bf):Prop := ∀T S ns k,(es.aB L T S ns k=true->∀ρ Γ,Fix k ρ (es.ev O m T ρ Γ)/\Fix k ρ (es.bL O m T ρ Γ)/\Fix k ρ (es.gD O m T ρ Γ))/\(es.dZ L T S ns k=true->∀vs ρ Γ,Fix k ρ (es.mi O m T vs ρ Γ))
def FT(L:dX)(O:aL)(m:Md)(t:Te):Prop := ∀T S ns k,t.aB L T S ns k=true->∀ρ Γ,Fix k ρ (t.ev O m T ρ Γ)
def Gy(L:dX)(O:aL)(m:Md)(ts:bY):Prop := ∀T S ns k,ts.aB L T S ns k=true->∀ρ Γ,Fix k ρ (ts.bL O m T ρ Γ)/\Fix k ρ (ts.gD O m T ρ Γ)
theorem e7{e:Ex}(h : ∀T S ns k,e.aB L T S ns k=true->∀ρ Γ,Fix k ρ (e.ev O m T ρ Γ))(n : ∀T S ns k,e.dZ L T S ns k=false):FX L O m e:=fun T S ns k=>⟨h T S ns k,fun q=>H' ((n T S ns k).symm.trans q)⟩
theorem EX{e a b:Ex}{f:V->aq->ag->V->aq->ag->Option V}(ia:FX L O m a)(ib:FX L O m b)(h : ∀T S ns k,e.aB L T S ns k=true->a.aB L T S ns k=true/\b.aB L T S ns k=true)(q : ∀T ρ Γ,e.ev O m T ρ Γ=(a.ev O m T ρ Γ).bind fun x Od Oj=>(b.ev O m T Od Oj).bind fun y PJ PA => .opt PJ PA (f x Od Oj y PJ PA):=by intros;rfl):
  ∀T S ns k,e.aB L T S ns k=true->∀ρ Γ,Fix k ρ (e.ev O m T ρ Γ):=fun T S ns k hh ρ Γ=>by
 rw[q];exact((ia T S ns k).1 (h T S ns k hh).1 ρ Γ).bind fun _ _ _=>((ib T S ns k).1 (h T S ns k hh).2 _ _).bind fun _ _ _ => .opt
theorem Ak{e a b:Ex}{f:V->aq->ag->V->aq->ag->Option V}(ia:FX L O m a)(ib:FX L O m b)(h : ∀T S ns k,e.aB L T S ns k=true->a.aB L T S ns k=true/\b.aB L T S ns k=true)(q : ∀T ρ Γ,e.ev O m T ρ Γ=(a.ev O m T ρ Γ).bind fun x Od Oj=>(b.ev O m T Od Oj).bind fun y PJ PA => .opt PJ PA (f x Od Oj y PJ PA):=by intros;rfl)(n : ∀T S ns k,e.dZ L T S ns k=false:=by intros;rfl):FX L O m e:=e7 (EX ia ib h q) n
theorem pN:(∀e,FX L O m e)/\∀ts,Gy L O m ts:=by
 refine⟨@Ex.rec (FX L O m) (JF L O m) (FT L O m) (Gy L O m) ?a0 ?a1 ?a2 ?a3 ?a4 ?a5 ?a6 ?a7 ?a8 ?a9 ?a10 ?a11 ?a12 ?cq ?a14 ?a15 ?a16 ?a17 ?a18 ?a19 ?a20 ?a21 ?a22 ?a23 ?a24 ?a25 ?a26 ?a27 ?a28 ?a29 ?a30 ?a31 ?a32 ?a33 ?a34 ?a35 ?a36 ?a37 ?a38,@bY.rec (FX L O m) (JF L O m) (FT L O m) (Gy L O m) ?a0 ?a1 ?a2 ?a3 ?a4 ?a5 ?a6 ?a7 ?a8 ?a9 ?a10 ?a11 ?a12 ?cq ?a14 ?a15 ?a16 ?a17 ?a18 ?a19 ?a20 ?a21 ?a22 ?a23 ?a24 ?a25 ?a26 ?a27 ?a28 ?a29 ?a30 ?a31 ?a32 ?a33 ?a34 ?a35 ?a36 ?a37 ?a38⟩;exact fun p=>e7 (fun _ _ _ _ _ _ _ => .ok) fun _ _ _ _=>rfl
 exact fun b p=>e7 (fun _ _ _ _ _ _ _ => .ok) fun _ _ _ _=>rfl
 exact fun b p=>e7 (fun _ _ _ _ _ _ _ => .ok) fun _ _ _ _=>rfl
 exact fun b p=>e7 (fun _ _ _ _ _ _ _ => .ok) fun _ _ _ _=>rfl
 exact fun i p T S ns k=>⟨fun _ _ _ => .opt,fun h _ _ _ => .set (cp h)⟩
 exact fun i p=>e7 (fun _ _ _ _ h _ _ => .aT fun _ => .aT fun _ => .set (cp h)) fun _ _ _ _=>rfl
 exact fun g p=>e7 (fun _ _ _ _ _ _ _ => .opt) fun _ _ _ _=>rfl
 exact fun op a b p ia ib=>Ak ia ib fun _ _ _ _ h=>⟨a1 h,a2 h⟩
 exact fun op a b p ia ib=>Ak ia ib fun _ _ _ _ h=>⟨a1 (a1 h),a2 (a1 h)⟩
 exact fun es p ih=>e7 (fun T S ns k h ρ Γ=>((ih T S ns k).1 h ρ Γ).2.1) fun _ _ _ _=>rfl
 exact fun es p ih=>e7 (fun T S ns k h ρ Γ=>((ih T S ns k).1 h ρ Γ).2.2) fun _ _ _ _=>rfl
 exact fun a p ia=>e7 (fun T S ns k h ρ Γ=>((ia T S ns k).1 h ρ Γ).bind fun _ _ _ => .opt) fun _ _ _ _=>rfl
 exact fun t a b p it ia ib=>e7 (fun T S ns k h ρ Γ=>(it T S ns k (a1 (a1 h)) ρ Γ).bind fun _ _ _=>bS ((ia T S ns k).1 (a2 (a1 h)) _ _) ((ib T S ns k).1 (a2 h) _ _)) fun _ _ _ _=>rfl
 exact fun es p ih T S ns k=>⟨fun h ρ Γ=>((ih T S ns k).1 h ρ Γ).1.bind fun _ _ _ => .opt,fun h v ρ Γ => .aT fun l=>bS ((ih T S ns k).2 h _ ρ Γ) .no⟩
 exact fun es p ih=>e7 (fun T S ns k h ρ Γ=>((ih T S ns k).1 h ρ Γ).1.bind fun _ _ _ => .opt) fun _ _ _ _=>rfl
 exact fun p=>e7 (fun _ _ _ _ _ _ _ => .ok) fun _ _ _ _=>rfl
 exact fun k p=>e7 (fun _ _ _ _ _ _ _ => .ok) fun _ _ _ _=>rfl
 exact fun x px e p _=>e7 (fun _ _ _ _ _ _ _ => .aT fun _ => .ok) fun _ _ _ _=>rfl
 exact fun a i p ia ib T S ns k=>⟨(EX (e := .sub a i p) ia ib fun _ _ _ _ h=>⟨a1 h,a2 h⟩) T S ns k,fun h v ρ Γ=>((ia T S ns k).1 (a1 h) ρ Γ).bind fun _ _ _=>((ib T S ns k).1 (a2 h) _ _).bind fun _ _ _ => .aT fun _ => .ok⟩
 exact fun a i _ p ia ib=>Ak ia ib fun _ _ _ _ h=>⟨a1 h,a2 h⟩
 exact fun a i _ p ia ib=>Ak ia ib fun _ _ _ _ h=>⟨a1 h,a2 h⟩
 exact fun a i j _ p ia ib ic=>e7 (fun T S ns k h ρ Γ=>((ia T S ns k).1 (a1 (a1 h)) ρ Γ).bind fun _ _ _=>((ib T S ns k).1 (a2 (a1 h)) _ _).bind fun _ _ _=>((ic T S ns k).1 (a2 h) _ _).bind fun _ _ _ => .opt) fun _ _ _ _=>rfl
 exact fun a n p ia T S ns k=>⟨fun h ρ Γ=>((ia T S ns k).1 (a1 h) ρ Γ).bind fun _ _ _ => .opt,fun h v ρ Γ=>((ia T S ns k).1 (a1 h) ρ Γ).bind fun _ _ _ => .aT fun _ => .ok⟩
 exact fun q f b es p ia ib=>e7 (fun T S ns k h ρ Γ=>((ia T S ns k).1 (a1 (a1 h)) ρ Γ).bind fun _ _ _=>((ib T S ns k).1 (a2 h) _ _).1.bind fun _ _ _ => .aT fun _=>bS .res .no) fun _ _ _ _=>rfl
 exact fun b f es p ia ib=>e7 (fun T S ns k h ρ Γ=>((ib T S ns k).1 (a2 h) ρ Γ).1.bind fun _ _ _ => .opt) fun _ _ _ _=>rfl
 exact fun C f es p ia ib=>e7 (fun T S ns k h ρ Γ => .aT fun _=>((ia T S ns k).1 (a1 (a1 h)) ρ Γ).bind fun _ _ _=>((ib T S ns k).1 (a2 h) _ _).1.bind fun _ _ _ => .aT fun _=>bS (.aT fun _ => .ok) .no) fun _ _ _ _=>rfl
 exact fun a me es pa p ia ib=>e7 (fun T S ns k h ρ Γ=>((ia T S ns k).1 (a1 (a1 (a1 (a1 h)))) ρ Γ).bind fun _ _ _=>bS (((ib T S ns k).1 (a2 (a1 (a1 h))) _ _).1.bind fun _ _ _ => .aT fun _ => .ok) .no) fun _ _ _ _=>rfl
 exact fun a q es pa p ia ib=>e7 (fun T S ns k h ρ Γ=>((ia T S ns k).1 (a1 (a1 (a1 (a1 (a1 h))))) ρ Γ).bind fun _ _ _ => .aT fun _=>((ib T S ns k).1 (a2 (a1 (a1 (a1 h)))) _ _).1.bind fun _ _ _ => .res) fun _ _ _ _=>rfl
 exact fun a C es pa p ia ib=>e7 (fun T S ns k h ρ Γ=>((ib T S ns k).1 (a1 (a1 (a1 h))) ρ Γ).1.bind fun _ _ _ => .res) fun _ _ _ _=>rfl
 exact fun elt tgt it ifs locs aA gk sc p _ _ ii _=>e7 (fun T S ns k h ρ Γ=>((ii T S ns k).1 (a1 (a1 (a1 (a1 (a1 (a1 h)))))) ρ Γ).bind fun _ _ _ => .aT fun _=>bS (.aT fun _ => .ok) .no) fun _ _ _ _=>rfl
 exact fun T S ns k=>⟨fun h ρ Γ=>⟨.ok,.no,.no⟩,fun h vs ρ Γ=>bS .ok .no⟩
 exact fun e es ia ib T S ns k=>⟨fun h ρ Γ=>⟨((ia T S ns k).1 (a1 h) ρ Γ).bind fun _ _ _=>((ib T S ns k).1 (a2 h) _ _).1.bind fun _ _ _ => .ok,bS ((ia T S ns k).1 (a1 h) ρ Γ) (((ia T S ns k).1 (a1 h) ρ Γ).bind fun _ _ _ => .aT fun _=>bS ((ib T S ns k).1 (a2 h) _ _).2.1 .ok),bS ((ia T S ns k).1 (a1 h) ρ Γ) (((ia T S ns k).1 (a1 h) ρ Γ).bind fun _ _ _ => .aT fun _=>bS .ok ((ib T S ns k).1 (a2 h) _ _).2.2)⟩,
  fun h vs ρ Γ => .aT fun v=>((ia T S ns k).2 (a1 h) v ρ Γ).bind fun _ _ _=>(ib T S ns k).2 (a2 h) _ _ _⟩
 exact fun e ia T S ns k h ρ Γ=>((ia T S ns k).1 (a1 h) ρ Γ).bind fun _ _ _ => .opt
 exact fun t p it T S ns k h ρ Γ=>(it T S ns k h ρ Γ).bind fun _ _ _ => .ok
 exact fun ts p ih T S ns k h ρ Γ=>(ih T S ns k h ρ Γ).1
 exact fun ts p ih T S ns k h ρ Γ=>(ih T S ns k h ρ Γ).2
 exact fun a o1 b o2 d p ia ib ic T S ns k h ρ Γ=>((ia T S ns k).1 (a1 (a1 (a1 h))) ρ Γ).bind fun _ _ _=>((ib T S ns k).1 (a2 (a1 (a1 h))) _ _).bind fun _ _ _ => .aT fun _=>bS (((ic T S ns k).1 (a2 (a1 h)) _ _).bind fun _ _ _ => .opt) .ok
 exact fun T S ns k h ρ Γ=>⟨.ok,.ok⟩
 exact fun t ts it ih T S ns k h ρ Γ=>⟨(it T S ns k (a1 h) ρ Γ).bind fun _ _ _=>bS (ih T S ns k (a2 h) _ _).1 .ok,(it T S ns k (a1 h) ρ Γ).bind fun _ _ _=>bS .ok (ih T S ns k (a2 h) _ _).2⟩
end
section
structure u6(L:dX)(w:World)(T:Tab):Prop where
 gt : ∀p∈L.gt,GV (KK w.params) p.1 p.2
 um : ∀k∈L.um,k<T.fa.length/\yY w T k
 oi : ∀p∈L.oi,p.2<T.fa.length/\pz w T p.1 p.2
 new : ∀(C:Nat) a x k,T.ca[C]?=some (a,x,k)->k<T.fa.length/\(x=false->pT w T a k)/\(x=true->sq w T a k)
structure Bd(L:dX)(O:aL)(n:Nat)(T:Tab)(S:Kinds)(ns:List Str)(c:Cx):Prop where
 ns:c.ns=ns
 kind : ∀x,c.env.kindOf x=S.lookup x
 lv:c.lv<=n
 pb:c.lv<=300
 rZ:eA c.w T.fa O n
 fns:gJ c.w T
 room:sW c
 frame : ∃Lf,c.env.frame=some Lf
 own : ∀x∈c.ns,c.env.kindOf x≠some .free
 fk:c.env.scope.kind = .function
 gl : ∀q∈T.gn,∃v,q.2 = .val v/\GV (KK c.w.params) q.1 v/\c.env.kindOf q.1=some .globalImplicit
 mO:u6 L c.w T
variable{L:dX}{O:aL}{n:Nat}{m:Md}{c:Cx}{T:Tab}{S:Kinds}{ns:List Str}
theorem Bd.hold(B:Bd L O n T S ns c)(I:Addr)(o:Obj):Bd L O n T S ns (c.hold I o):=⟨B.ns,B.kind,B.lv,B.pb,B.rZ,B.fns,B.room,B.frame,B.own,B.fk,B.gl,B.mO⟩
theorem Bd.cD(B:Bd L O n T S ns c)(k:Nat)(a:Addr):Bd L O n T S ns (c.cD k a):=⟨B.ns,B.kind,B.lv,B.pb,B.rZ,B.fns,B.room,B.frame,B.own,B.fk,B.gl,B.mO⟩
theorem lN{S:Kinds}{x:Str}: ∀{names:Kinds},(dB S names).lookup x=(names.lookup x).map fun k=>if (k==O0&&S.lookup x==some .cell) then Pg else k
 | []=>rfl
 |(n,k)::r=>by
  simp only[dB,Oa];by_cases q:x=n
  ·subst q
   have e:((if (k==O0&&S.lookup x==some .cell)=true then(x,Pg) else(x,k)):Str×NameKind)=(x,if (k==O0&&S.lookup x==some .cell)=true then Pg else k):=by split<;>rfl
   rw[e];simp only[ON,beq_self_eq_true,OD]
  ·have qb:(x==n)=false:=by simpa using q
   have e:((if (k==O0&&S.lookup n==some .cell)=true then(n,Pg) else(n,k)):Str×NameKind).1=n:=by split<;>rfl
   rw[ON,ON,e,qb];exact lN
theorem lT : ∀{l:List Str},lF l=true->l.Nodup
 | [],_ => .nil
 |x::r,h=>by
  simp only[lF,OG,PT,List.contains_eq_mem,decide_eq_false_iff_not] at h;exact Py.mpr ⟨h.1,lT h.2⟩
theorem xJ{sc:QC}{locs:List Str}{aA:List Nat}(B:Bd L O n T S ns c)(h:sS S ns sc locs aA=true):de c sc locs aA:=by
 simp only[sS,OG,OV,VE,PT,beq_iff_eq] at h;obtain⟨⟨⟨⟨⟨h1,h2⟩,h3⟩,h4⟩,h5⟩,h6⟩:=h;refine⟨h1,fun x hx hl => ?_,fun x hx=>⟨(h2 x hx).1.2,(h2 x hx).2⟩,h3,fun i hi => ?_,fun p hp hf => ?_,?_⟩
 ·rcases (h2 x hx).1.1 with e | e
  ·rw[hl] at e;exact absurd e (by simp)
  ·exact e
 ·obtain⟨x,hx,this⟩:=aJ (cK (h4 i hi))
  simp only[OG,beq_iff_eq,OV,VE,PT] at this;refine⟨x,by rw[B.ns];exact hx,this.1.1,by rw[B.kind];exact this.1.2,fun p hp e => ?_⟩
  rcases this.2 p hp with q | q
  ·rw[e] at q;simp at q
  ·intro e';rw[e'] at q;simp at q
 ·rcases h5 p hp with e | e
  ·rw[hf] at e;simp at e
  ·simp only[QH,beq_iff_eq] at e
   rw[B.ns];exact e
 ·rw[B.ns];exact lT h6
theorem tQ{w:World}{q:Str×D}(hl : ∀p∈L.gt,GV (KK w.params) p.1 p.2)(h:u4 L S q=true): ∃v,q.2 = .val v/\GV (KK w.params) q.1 v/\S.lookup q.1=some .globalImplicit:=by
 obtain⟨v,hv,h⟩:=aJ (cK h);simp only[OG,beq_iff_eq,QH] at h;obtain⟨h1,r,h2,h3,h4⟩:=h;have:=hl r h2;rw[h3,lj h4] at this;exact⟨v,D.mF hv,this,h1⟩
theorem Bd.comp{sc:QC}{locs:List Str}{aA:List Nat}{gk:List (Str×D)}{c':Cx}(B:Bd L O n T S ns c)(C:cU c sc locs aA c')(hs:sc.kind = .function)(hk:c'.env.scope.kind = .function)(h:gk.all (u4 L (dB S sc.names))=true)(hf:sO (dB S sc.names) (inner ns locs aA)=true):
  Bd L O n (T.sub gk) (dB S sc.names) (inner ns locs aA) c':=by
 have kd : ∀x,c'.env.kindOf x=(dB S sc.names).lookup x:=fun x=>by
  rw[C.kind,lN,B.kind,B.fk];congr 1
  funext k
  simp
 refine⟨by rw[C.ns,B.ns],kd,by rw[C.lv];exact B.lv,by rw[C.lv];exact B.pb,by rw[C.w];exact B.rZ,by rw[C.w];exact B.fns,?_,?_,?_,hk,?_,?_⟩
 ·unfold sW;rw[C.A,C.lv];exact B.room
 ·obtain⟨Lf,h⟩:=B.frame;exact⟨Lf,C.frame.trans h⟩
 ·intro x hx
  rw[C.ns,B.ns] at hx;rw[kd];simp only[sO,OV,PT,beq_eq_false_iff_ne] at hf;exact hf x hx
 ·intro q hq
  simp only[OV] at h;obtain⟨v,h1,h2,h3⟩:=tQ (w:=c.w) B.mO.gt (h q hq);exact⟨v,h1,by rw[C.w];exact h2,by rw[kd];exact h3⟩
 ·rw[C.w];exact⟨B.mO.gt,B.mO.um,B.mO.oi,fun C a x k e=>let ⟨g1,g2,g3⟩:=B.mO.new C a x k e;⟨g1,fun q=>let N:=g2 q;⟨N.keep,N.makes,N.init,N.fn,N.cls⟩,fun q=>let N:=g3 q;⟨N.keep,N.cls,N.init,N.fn⟩⟩⟩
theorem lG{f:Ex}{v:Value}(B:Bd L O n T S ns c)(h:oU T f v=true): ∃x p,f.back T c.ns = .Name x p/\GV (KK c.w.params) x v/\c.env.kindOf x=some .globalImplicit:=by
 obtain⟨g,h1,h⟩:=ai (cK h);obtain⟨q,h2,h⟩:=ai h;obtain⟨w,h3,h4⟩:=aJ h;cases f with
 |glob g' p=>
  injection h1 with h1;subst h1
  obtain⟨v',e1,e2,e3⟩:=B.gl _ (Og h2);rw[e1] at h3;rw[j' h3,lj h4] at e2;exact⟨q.1,aK p,Ex.qE h2,e2,e3⟩
 |_=>exact aE h1
theorem sP{f:Ex}(h:f.named=true)(T:Tab)(ns:List Str): ∃x p,f.back T ns = .Name x p:=by
 cases f<;>first | exact⟨_,_,rfl⟩ | (injection h;done)
theorem Fo{C:Nat}{f:Ex}{es:bf}{p:Nat}(hC:T.ca[C]?=none):SE c T O m (.new C f es p):=fun ρ Γ => .of fun τ θ s hn S=>bt hn rfl fun q hq _ _=>aE (hC.symm.trans hq)
end
section
abbrev HM(c:Cx)(m:Md):Prop:=m.b=true->c.A.handled=none
abbrev D9(c:Cx)(T:Tab)(O:aL)(m:Md)(e:Ex):Prop := ∀op a b p,e = .cmp op a b p->SE c T O m a/\SE c T O m b/\QZ op (b.back T c.ns)=false
variable{L:dX}{O:aL}{n:Nat}
theorem wQ{S:Kinds}{ns:List Str}{T:Tab}{c:Cx}(B:Bd L O n T S ns c)(i:Nat): ∀x,c.ns[i]?=some x->c.env.kindOf x≠some .free:=fun x hx=>B.own x (Og hx)
theorem ux{S:Kinds}{ns:List Str}{T:Tab}{c:Cx}{m:Md}{g p:Nat}(B:Bd L O n T S ns c):SE c T O m (.glob g p):=
 CT (fun q hq => .inr (B.gl q hq)) fun q hq=>by obtain⟨v,e,_⟩:=B.gl q hq;rw[e];simp
def m3(L:dX)(O:aL)(n:Nat)(e:Ex):Prop := ∀T S ns k m c,(e.aB L T S ns k=true->Bd L O n T S ns c->HM c m->SE c T O m e/\D9 c T O m e)/\(e.dZ L T S ns k=true->k<=ns.length->Bd L O n T S ns c->HM c m->SA c T O m e)
def Dy(L:dX)(O:aL)(n:Nat)(es:bf):Prop := ∀T S ns k m c,(es.aB L T S ns k=true->Bd L O n T S ns c->HM c m->i7 c T O m es/\ow c T O m es/\oF c T O m es)/\(es.dZ L T S ns k=true->k<=ns.length->Bd L O n T S ns c->HM c m->wB c T O m es)
def AP(L:dX)(O:aL)(n:Nat)(t:Te):Prop := ∀T S ns k m c,t.aB L T S ns k=true->Bd L O n T S ns c->HM c m->iZ c T O m t
def wI(L:dX)(O:aL)(n:Nat)(ts:bY):Prop := ∀T S ns k m c,ts.aB L T S ns k=true->Bd L O n T S ns c->HM c m->rz c T O m ts/\q8 c T O m ts/\jy c T O m ts
section
variable{T:Tab}{S:Kinds}{ns:List Str}{k:Nat}{m:Md}{c:Cx}{e:Ex}
theorem nV(h:e.mr=false):D9 c T O m e:=fun op a b p q=>by rw[q] at h;exact H' h
theorem m3.se(i:m3 L O n e)(h:e.aB L T S ns k=true)(B:Bd L O n T S ns c)(hm:HM c m):SE c T O m e:=((i T S ns k m c).1 h B hm).1
theorem eD(h : ∀{T S ns k m c},e.aB L T S ns k=true->Bd L O n T S ns c->HM c m->SE c T O m e)(hc:e.mr=false:=by rfl)(hn : ∀T S ns k,e.dZ L T S ns k=false:=by intros;rfl):m3 L O n e:=fun T S ns k m c=>⟨fun q B hm=>⟨h q B hm,nV hc⟩,fun q=>H' ((hn T S ns k).symm.trans q)⟩
theorem Ex.CZ(h:e.yy.isSome=true): ∃y q,e = .str y q:=by
 cases e with
 |str y q=>exact⟨y,q,rfl⟩
 |_=>exact H' h
theorem Eg{C:Nat}{f:Ex}{es:bf}{p:Nat}(B:Bd L O n T S ns c)(hm:HM c m)(hf : ∃x p',f.back T c.ns = .Name x p')(h1:SE c T O m f)(h2:i7 c T O m es):SE c T O m (.new C f es p):=by
 cases hC:T.ca[C]? with
 |none=>exact Fo hC
 |some q=>
  obtain⟨g1,g2,g3⟩:=B.mO.new C q.1 q.2.1 q.2.2 hC;exact Hj hC hf h1 h2 B.rZ B.lv B.fns g1 B.room hm g2 g3
theorem BL{a:Ex}{C:Nat}{es:bf}{pa p:Nat}(B:Bd L O n T S ns c)(hm:HM c m)(h2:i7 c T O m es)(hl:es.len<30)(hp:((aK pa).endLine==(aK p).line)=true)(h:wu L T a C=true):SE c T O m (.init a C es pa p):=by
 cases C with
 |zero=>
  obtain⟨x,p',h1,h2',h3⟩:=lG B h;exact Cc h1 h2' h3 h2 hl hp
 |succ C=>
  obtain⟨q,q1,q2⟩:=QH.mp h;obtain⟨x,p',h1,h2',h3⟩:=lG B (a2 q2);obtain⟨o1,o2⟩:=B.mO.oi q q1;rw[N2 (a1 q2)] at o1 o2;exact BE h1 h2' h3 o2 h2 hl hp B.rZ B.lv B.fns o1 hm
structure CompI(T:Tab)(O:aL)(m:Md)(c:Cx)(elt tgt it:Ex)(ifs:bY)(locs:List Str)(aA:List Nat)(gk:List (Str×D))(sc:QC):Prop where
 i1:SE c T O m it
 E:de c sc locs aA
 hT : ∀c',cU c sc locs aA c'->SA c' (T.sub gk) O .free tgt
 hI : ∀c',cU c sc locs aA c'->jy c' (T.sub gk) O .free ifs
 hE : ∀c',cU c sc locs aA c'->SE c' (T.sub gk) O .free elt
variable{elt tgt it:Ex}{ifs:bY}{locs:List Str}{aA:List Nat}{gk:List (Str×D)}{sc:QC}{p:Nat}
theorem oa(i4:m3 L O n elt)(i2:m3 L O n tgt)(i1:m3 L O n it)(i3:wI L O n ifs)(h:(Ex.comp elt tgt it ifs locs aA gk sc p).aB L T S ns k=true)(B:Bd L O n T S ns c)(hm:HM c m):CompI T O m c elt tgt it ifs locs aA gk sc:=by
 have E:=xJ B (a2 (a1 (a1 (a1 (a1 (a1 h))))));have B':=fun c' (C:cU c sc locs aA c')=>B.comp C E.kind C.fk (a2 (a1 (a1 (a1 (a1 h))))) (a2 (a1 (a1 (a1 h))))
 exact⟨i1.se (a1 (a1 (a1 (a1 (a1 (a1 h)))))) B hm,E,fun c' C=>(i2 _ _ _ _ _ _).2 (a2 (a1 h)) (by simp[inner]) (B' c' C) fun _=>C.free,fun c' C=>(i3 _ _ _ _ _ _ (a2 h) (B' c' C) fun _=>C.free).2.2,fun c' C=>i4.se (a2 (a1 (a1 h))) (B' c' C) fun _=>C.free⟩
theorem kl(h:(Ex.comp elt tgt it ifs locs aA gk sc p).aB L T S ns k=true):(∀v ρ Γ,Fix locs.length ρ (tgt.bC O .free (T.sub gk) v ρ Γ))/\(∀ρ Γ,Fix locs.length ρ (ifs.bL O .free (T.sub gk) ρ Γ))/\∀ρ Γ,Fix locs.length ρ (elt.ev O .free (T.sub gk) ρ Γ):=
 ⟨(pN.1 tgt _ _ _ _).2 (a2 (a1 h)),fun ρ Γ=>(pN.2 ifs _ _ _ _ (a2 h) ρ Γ).1,(pN.1 elt _ _ _ _).1 (a2 (a1 (a1 h)))⟩
end
theorem c9:(∀e,m3 L O n e)/\(∀t,AP L O n t)/\∀ts,wI L O n ts:=by
 refine⟨@Ex.rec (m3 L O n) (Dy L O n) (AP L O n) (wI L O n) ?a0 ?a1 ?a2 ?a3 ?a4 ?a5 ?a6 ?a7 ?a8 ?a9 ?a10 ?a11 ?a12 ?cq ?a14 ?a15 ?a16 ?a17 ?a18 ?a19 ?a20 ?a21 ?a22 ?a23 ?a24 ?a25 ?a26 ?a27 ?a28 ?a29 ?a30 ?a31 ?a32 ?a33 ?a34 ?a35 ?a36 ?a37 ?a38,
  @Te.rec (m3 L O n) (Dy L O n) (AP L O n) (wI L O n) ?a0 ?a1 ?a2 ?a3 ?a4 ?a5 ?a6 ?a7 ?a8 ?a9 ?a10 ?a11 ?a12 ?cq ?a14 ?a15 ?a16 ?a17 ?a18 ?a19 ?a20 ?a21 ?a22 ?a23 ?a24 ?a25 ?a26 ?a27 ?a28 ?a29 ?a30 ?a31 ?a32 ?a33 ?a34 ?a35 ?a36 ?a37 ?a38,
  @bY.rec (m3 L O n) (Dy L O n) (AP L O n) (wI L O n) ?a0 ?a1 ?a2 ?a3 ?a4 ?a5 ?a6 ?a7 ?a8 ?a9 ?a10 ?a11 ?a12 ?cq ?a14 ?a15 ?a16 ?a17 ?a18 ?a19 ?a20 ?a21 ?a22 ?a23 ?a24 ?a25 ?a26 ?a27 ?a28 ?a29 ?a30 ?a31 ?a32 ?a33 ?a34 ?a35 ?a36 ?a37 ?a38⟩
 exact fun p=>eD fun h B hm=>B6
 exact fun b p=>eD fun h B hm=>Bl
 exact fun b p=>eD fun h B hm=>F0
 exact fun b p=>eD fun h B hm=>DT
 exact fun i p T S ns k m c=>⟨fun h B hm=>⟨GK,nV rfl⟩,fun h hk B hm=>GS (B.ns▸Rb (cp h) hk) (wQ B i)⟩
 exact fun i p=>eD fun h B hm=>HP
 exact fun g p=>eD fun h B hm=>ux B
 exact fun op a b p ia ib=>eD fun h B hm=>Ds (ia.se (a1 h) B hm) (ib.se (a2 h) B hm)
 exact fun op a b p ia ib T S ns k m c=>⟨fun h B hm=>have h1:=ia.se (a1 (a1 h)) B hm;have h2:=ib.se (a2 (a1 h)) B hm;have h3:QZ op (b.back T c.ns)=false:=B.ns▸gf (a2 h);⟨HD h1 h2 h3 (vJ B.pb),fun op' a' b' p' q=>by cases q;exact⟨h1,h2,h3⟩⟩,fun h=>H' h⟩
 exact fun es p ih=>eD fun h B hm=>Hr ((ih _ _ _ _ _ _).1 h B hm).2.1
 exact fun es p ih=>eD fun h B hm=>Kp ((ih _ _ _ _ _ _).1 h B hm).2.2
 exact fun a p ia=>eD fun h B hm=>HA (ia.se h B hm)
 exact fun t a b p it ia ib=>eD fun h B hm=>Hv (it _ _ _ _ _ _ (a1 (a1 h)) B hm) (ia.se (a2 (a1 h)) B hm) (ib.se (a2 h) B hm)
 exact fun es p ih T S ns k m c=>⟨fun h B hm=>⟨Hu ((ih _ _ _ _ _ _).1 h B hm).1,nV rfl⟩,fun h hk B hm=>ID ((ih _ _ _ _ _ _).2 h hk B hm) hm⟩
 exact fun es p ih=>eD fun h B hm=>Iw ((ih _ _ _ _ _ _).1 h B hm).1
 exact fun p=>eD fun h B hm=>DE
 exact fun i p=>eD fun h B hm=>DF
 exact fun x px e p _=>eD fun h B hm=>by obtain⟨y,q,rfl⟩:=Ex.CZ h;exact D7
 exact fun a i p ia ib T S ns k m c=>⟨fun h B hm=>⟨H6 (ia.se (a1 h) B hm) (ib.se (a2 h) B hm),nV rfl⟩,fun h hk B hm=>Hh (ia.se (a1 h) B hm) (ib.se (a2 h) B hm)⟩
 exact fun a i _ p ia ib=>eD fun h B hm=>Es (ia.se (a1 h) B hm) (ib.se (a2 h) B hm)
 exact fun a i _ p ia ib=>eD fun h B hm=>C7 (ia.se (a1 h) B hm) (ib.se (a2 h) B hm)
 exact fun a i j _ p ia ib ic=>eD fun h B hm=>DZ (ia.se (a1 (a1 h)) B hm) (ib.se (a2 (a1 h)) B hm) (ic.se (a2 h) B hm)
 exact fun a q p ia T S ns k m c=>⟨fun h B hm=>⟨De (ia.se (a1 h) B hm) (a2 h),nV rfl⟩,fun h hk B hm=>Gh (ia.se (a1 h) B hm) (cp (a2 h))⟩
 exact fun q f b es p ia ib=>eD fun h B hm=>Ee (sP (a2 (a1 h)) _ _) (ia.se (a1 (a1 h)) B hm) ((ib _ _ _ _ _ _).1 (a2 h) B hm).1 B.rZ B.lv B.fns hm
 exact fun b f es p ia ib=>eD fun h B hm=>let ⟨x,p',h1,h2,h3⟩:=lG B (a1 h);Bg h1 h2 h3 ((ib _ _ _ _ _ _).1 (a2 h) B hm).1 hm
 exact fun C f es p ia ib=>eD fun h B hm=>Eg B hm (sP (a2 (a1 h)) _ _) (ia.se (a1 (a1 h)) B hm) ((ib _ _ _ _ _ _).1 (a2 h) B hm).1
 exact fun a me es pa p ia ib=>eD fun h B hm=>EV (ia.se (a1 (a1 (a1 (a1 h)))) B hm) (a2 (a1 (a1 (a1 h)))) ((ib _ _ _ _ _ _).1 (a2 (a1 (a1 h))) B hm).1 (cp (a2 (a1 h))) (a2 h)
 exact fun a q es pa p ia ib=>eD fun h B hm=>let ⟨g1,g2⟩:=B.mO.um q (Uc.mp (a2 h));Bx (ia.se (a1 (a1 (a1 (a1 (a1 h))))) B hm) (a2 (a1 (a1 (a1 (a1 h))))) ((ib _ _ _ _ _ _).1 (a2 (a1 (a1 (a1 h)))) B hm).1 (cp (a2 (a1 (a1 h)))) (a2 (a1 h)) B.rZ B.lv B.fns g1 hm g2
 exact fun a C es pa p ia ib=>eD fun h B hm=>BL B hm ((ib _ _ _ _ _ _).1 (a1 (a1 (a1 h))) B hm).1 (cp (a2 (a1 (a1 h)))) (a2 (a1 h)) (a2 h)
 exact fun elt tgt it ifs locs aA gk sc p i4 i2 i1 i3=>eD fun{T S ns k m c} h B hm=>let P:=oa i4 i2 i1 i3 h B hm;Ef P.i1 P.E hm P.hT P.hI P.hE (kl h).1 (kl h).2.1 (kl h).2.2
 exact fun T S ns k m c=>⟨fun h B hm=>⟨DR,Ec,DQ⟩,fun h hk B hm=>EH⟩
 exact fun e es ia ib T S ns k m c=>⟨fun h B hm=>have h1:=ia.se (a1 h) B hm;have h2:=(ib _ _ _ _ _ _).1 (a2 h) B hm;⟨aj h1 h2.1,B4 h1 h2.2.1,Bq h1 h2.2.2⟩,fun h hk B hm=>Bc ((ia _ _ _ _ _ _).2 (a1 h) hk B hm) ((ib _ _ _ _ _ _).2 (a2 h) hk B hm)⟩
 exact fun e ia T S ns k m c h B hm=>Im (ia.se (a1 h) B hm) (a2 h) ((ia _ _ _ _ _ _).1 (a1 h) B hm).2 (vJ B.pb)
 exact fun t p it T S ns k m c h B hm=>Ho (it _ _ _ _ _ _ h B hm)
 exact fun ts p ih T S ns k m c h B hm=>HL (ih _ _ _ _ _ _ h B hm).1
 exact fun ts p ih T S ns k m c h B hm=>J7 (ih _ _ _ _ _ _ h B hm).2.1
 exact fun a o1 b o2 d p ia ib ic T S ns k m c h B hm=>B5 (ia.se (a1 (a1 (a1 h))) B hm) (ib.se (a2 (a1 (a1 h))) B hm) (ic.se (a2 (a1 h)) B hm) (B.ns▸gf (a2 h)) (vJ B.pb)
 exact fun T S ns k m c h B hm=>⟨CQ,Bw,Gm⟩
 exact fun t ts it ih T S ns k m c h B hm=>have h1:=it _ _ _ _ _ _ (a1 h) B hm;have h2:=ih _ _ _ _ _ _ (a2 h) B hm;⟨yi h1 h2.1,zU h1 h2.2.1,CM h1 h2.2.2⟩
end
section
variable{L:dX}{O:aL}{n:Nat}{T:Tab}{S:Kinds}{ns:List Str}
theorem hZ.hm{c:Cx}{m:Md}(h:hZ c m):HM c m:=fun e=>by
 cases m with
 |free=>exact h
 |hold=>injection e
 |eS=>injection e
theorem vm{elt:PySem.Expr}{gens:List Comprehension}{sc:QC}{pc q:W7}{x:Str}{l:Nat}{env:R0}(h1:env.scope.kind = .function)(h2:env.kindOf x=some .local)(h3:(q.line==pc.line)=true)(h4:(sc.names.any fun y=>y.1==x&&(y.2 == .local||y.2 == .cell))=false):
  Qi [.Name x q] (.ListComp elt gens sc pc) l env=pure true:=by
 show pure (env.blockKind == .function&&env.kindOf x==some .local&&q.line==pc.line && !(sc.names.any fun(n,k)=>n==x&&(k == .local||k == .cell)))=_
 have hb:env.blockKind = .function:=by unfold WH;rw[h1];rfl
 have h4':(sc.names.any fun(n,k)=>n==x&&(k == .local||k == .cell))=false:=h4
 rw[hb,h2,h3,h4'];rfl
theorem mZ{t:PySem.Expr}{e:Ex}(h:e.oY=false)(T:Tab)(ns:List Str)(l:Nat)(env:R0):Qi [t] (e.back T ns) l env=pure false:=by
 cases e<;>first | rfl | (injection h;done)
theorem vq{e:Ex}(h:e.oY=false)(T:Tab)(ns:List Str)(l:Nat)(env:R0):swapsWith (e.back T ns) none l env=pure false:=by
 cases e<;>first | rfl | (injection h;done)
theorem J5{x:Bool}(h:(!x)=false):x=true:=by
 cases x with
 |true=>rfl
 |false=>exact H' h
theorem s7{e:Ex}(h:e.isInt=true): ∃i p,e = .int i p:=by
 cases e with
 |int i p=>exact⟨i,p,rfl⟩
 |_=>exact H' h
theorem qH(T:Tab)(ns:List Str): ∀{es:bf},es.ints=true->(es.back T ns).all (Uu 8)=true
 | .nil,_=>rfl
 | .cons e es,h=>by
  obtain⟨i,p,rfl⟩:=s7 (a1 h);exact qH T ns (es:=es) (a2 h)
theorem yQ{α:Type}{A B C D:Prop} [Decidable A] [Decidable B] [Decidable C] [Decidable D]{x:Su (Option α)}(h:D):(if A then pure none else if B then pure none else if C then pure none else if D then pure none else x)=(pure none:Su (Option α)):=by
 by_cases a:A
 ·rw[if_pos a]
 ·rw[if_neg a]
  by_cases b:B
  ·rw[if_pos b]
  ·rw[if_neg b]
   by_cases c:C
   ·rw[if_pos c]
   ·rw[if_neg c,if_pos h]
theorem tx{t e:Ex}{k:Nat}(h:w8 t e=true)(T:Tab)(ns:List Str)(env:R0)(ht:t.dZ L T S ns k=true):Qu [t.back T ns] (e.back T ns) env=pure none:=by
 have h:=gf (a2 h);cases t with
 |tup es p=>
  cases e with
  |tup fs q=>exact yQ (qH T ns (J5 h))
  |_=>rfl
 |lst=>exact H' ht
 |nz=>exact H' ht
 |_=>rfl
theorem vF{α β:Type}{f:α->Option β}{a b:α}{x y:β}(h1:f a=some x)(h2:f b=some y):[a,b].filterMap f=[x,y]:=by
 rw[TF h1,TF h2];rfl
theorem tG {env:R0} {x y:Str} {q1 q2 qt qv qe:W7} {i:Int} {u:PySem.Expr} (h1:env.scope.kind = .function) (hx:env.kindOf x=some .local) (hy:env.kindOf y=some .local) (hl:(q1.line==q2.line)=true) (hne:(x==y)=false)
  (hu:(∃f as ks q,u = .Call f as ks q)\/(∃z q,u = .Name z q/\(z==("__debug__":Str))=false)) :
  Qu [.Tuple [.Name x q1,.Name y q2] 0 qt] (.Tuple [.Constant (.int i) 0 qv,u] 0 qe) env=pure (some [x,y]):=by
 have hb:env.blockKind = .function:=by unfold WH;rw[h1];rfl
 have hf:[(.Constant (.int i) 0 qv:PySem.Expr),u].all (Uu 8)=false:=by
  rcases hu with⟨f,as,ks,q,rfl⟩ | ⟨z,q,rfl,hz⟩<;>rfl
 have hc:[(.Constant (.int i) 0 qv:PySem.Expr),u].all (X8 8)=false:=by
  rcases hu with⟨f,as,ks,q,rfl⟩ | ⟨z,q,rfl,hz⟩
  ·rfl
  ·show(true&&((z==("__debug__":Str))&&true))=false
   rw[hz];rfl
 have hl':(q2.line==q1.line)=true:=by rw[beq_iff_eq] at hl ⊢;exact hl.symm
 have hq:(q1.line==q1.line)=true:=beq_self_eq_true _;have hd:([x,y].eraseDups.length != [x,y].length)=false:=by
  have:[x,y].eraseDups=[x,y]:=by
   have hne':(y==x)=false:=by
    cases q:(y==x) with
    |false=>rfl
    |true=>rw[beq_iff_eq.mp q] at hne;simp at hne
   simp[List.eraseDups,List.eraseDupsBy,VU,hne']
  rw[this];rfl
 have no : ∀{b:Bool},b=false->¬(b=true):=fun e h=>by injection e.symm.trans h
 have key : ∀(nm:List Str),nm=[x,y]->(if (nm.length != [(.Name x q1:PySem.Expr),.Name y q2].length||nm.eraseDups.length != nm.length)=true then(pure none:Su (Option (List Str))) else
   if ([(.Constant (.int i) 0 qv:PySem.Expr),u].all (Uu 8))=true then pure none else
   if ([(.Constant (.int i) 0 qv:PySem.Expr),u].all (X8 8))=true then(do unsupported "assign.tuple-of-constant-expressions:order-of-the-stores";pure (some nm)) else pure (some nm))=pure (some [x,y]):=fun nm e=>by
  subst e;rw[if_neg (no (by rw[hd];rfl)),if_neg (no hf),if_neg (no hc)]
 refine(if_neg (no ?_)).trans ((if_neg (no ?_)).trans (key _ (vF ?_ ?_)))
 ·rw[hb];rfl
 ·rcases hu with⟨f,as,ks,q,rfl⟩ | ⟨z,q,rfl,hz⟩<;>rfl
 ·show(if (env.kindOf x==some .local&&q1.line==q1.line)=true then some x else none)=some x
  rw[hx,hq];rfl
 ·show(if (env.kindOf y==some .local&&q2.line==q1.line)=true then some y else none)=some y
  rw[hy,hl'];rfl
end
section
variable{L:dX}{O:aL}{n:Nat}{T:Tab}{S:Kinds}{ns:List Str}
theorem getD_at{ns:List Str}{i:Nat}(h:i<ns.length):ns[i]?=some (ns.getD i ""):=by
 rw[O8,N8 h];rfl
section
variable{t e:Ex}{p:Nat}{m:Md}{c:Cx}
theorem jW{q}(h:e.var?=some q):e = .var q.1 q.2:=by
 cases e with
 |var i p=>exact j' h▸rfl
 |_=>exact aE h
theorem gR{q}(h:e.ju=some q):e = .tup q.1 q.2:=by
 cases e with
 |tup i p=>exact j' h▸rfl
 |_=>exact aE h
theorem Dl{q}(h:e.I8=some q): ∃a b i f l k g,e = .comp a b i f l k g q.1 q.2:=by
 cases e with
 |comp a b i f l k g sc pc=>exact⟨a,b,i,f,l,k,g,j' h▸rfl⟩
 |_=>exact aE h
theorem BX{es:bf}(h:es.one?=some e):es = .cons e .nil:=by
 cases es with
 |nil=>exact aE h
 |cons a r=>
  obtain⟨h1,rfl⟩:=bF h;cases r with
  |nil=>rfl
  |cons=>exact H' h1
theorem o9{es:bf}{q}(h:es.vn=some q):es = .cons q.1 (.cons q.2 .nil):=by
 cases es with
 |nil=>exact aE h
 |cons a r=>
  obtain⟨b,h1,rfl⟩:=aJ h;rw[BX h1]
theorem zP(h:e.va.isSome=true): ∃g q,e = .glob g q:=by
 cases e with
 |glob g q=>exact⟨g,q,rfl⟩
 |_=>exact H' h
theorem C2(h:Fi ns e=true):(∃f as ks q,e.back T ns = .Call f as ks q)\/(∃z q,e.back T ns = .Name z q/\(z==("__debug__":Str))=false):=by
 cases e with
 |gH=>exact .inl ⟨_,_,_,_,rfl⟩
 |var i q=>exact .inr ⟨_,_,rfl,gf h⟩
 |_=>exact H' h
theorem Fm(h1:e.aB L T S ns ns.length=true)(h2:t.dZ L T S ns ns.length=true)(hsw:AA t e S ns=true)(B:Bd L O n T S ns c)(hm:hZ c m):SS c T O m (.asg t e p):=by
 obtain⟨v,q1,h⟩:=ai (cK hsw);obtain⟨q,q2,g⟩:=aJ h;obtain⟨elt,tgt,it,ifs,locs,aA,gk,rfl⟩:=Dl q2;have P:=oa (c9.1 elt) (c9.1 tgt) (c9.1 it) (c9.2.2 ifs) h1 B hm.hm;obtain⟨g1,g2,g3⟩:=kl (O:=O) h1;have hte:=eX t T c.ns [] c.env;refine Gl P.i1 P.E hm.hm P.hT P.hI P.hE g1 g2 g3 (fun C oC=>(c9.1 t _ _ _ _ _ (c.hold C oC)).2 h2 (Ox _) (B.hold C oC) hm.hm) ?_ hte
 rw[jW q1];exact vm B.fk (by rw[B.kind,B.ns];exact beq_iff_eq.mp (a1 (a1 g))) (a2 (a1 g)) (by rw[B.ns];exact gf (a2 g))
theorem DK(he:SE c T O m e)(hp:AK t e S ns=true)(B:Bd L O n T S ns c)(hm:hZ c m):SS c T O m (.asg t e p):=by
 obtain⟨tt,q1,h⟩:=ai (cK hp);obtain⟨ab,q2,h⟩:=ai h;obtain⟨i,q3,h⟩:=ai h;obtain⟨j,q4,h⟩:=ai h;obtain⟨ee,q5,h⟩:=ai h;obtain⟨uv,q6,h⟩:=aJ h;have et:t = .tup (.cons (.var i.1 i.2) (.cons (.var j.1 j.2) .nil)) tt.2:=by rw[gR q1,o9 q2,jW q3,jW q4]
 obtain⟨iv,ip,hiv⟩:=s7 (a1 (a1 (a1 (a1 (a1 (a1 (a1 h)))))));have ee:e = .tup (.cons (.int iv ip) (.cons uv.2 .nil)) ee.2:=by rw[gR q5,o9 q6,hiv]
 rw[et];have hi:=getD_at (cp (a2 (a1 (a1 (a1 (a1 (a1 h)))))));have hj:=getD_at (cp (a2 (a1 (a1 (a1 (a1 h))))));have hxy:=gf (a2 h);have kx:=beq_iff_eq.mp (a2 (a1 (a1 (a1 h))));have ky:=beq_iff_eq.mp (a2 (a1 (a1 h)));cases B.ns;refine FW he hm.hm (fun e=>by rw[e,beq_self_eq_true] at hxy;exact H' hxy) hi hj (by rw[B.kind,kx];nofun) (by rw[B.kind,ky];nofun) (fun t l=>mZ (by rw[ee];rfl) T c.ns l c.env) ?_
 rw[ee];exact tG B.fk (by rw[B.kind];exact kx) (by rw[B.kind];exact ky) (a2 (a1 h)) hxy (C2 (a2 (a1 (a1 (a1 (a1 (a1 (a1 h))))))))
theorem HR(h:(St.asg t e p).aB L T S ns=true)(B:Bd L O n T S ns c)(hm:hZ c m):SS c T O m (.asg t e p):=by
 have h1:=a1 (a1 h);have h2:=a2 (a1 h);have he:=(c9.1 e).se h1 B hm.hm;rcases QX.mp (a2 h) with h3 | hpl
 ·rcases QX.mp h3 with h3 | h3
  ·exact Fm h1 h2 h3 B hm
  ·exact DK he h3 B hm
 ·exact Hd he ((c9.1 t _ _ _ _ m c).2 h2 (Ox _) B hm.hm) (fun l=>mZ (gf (a1 hpl)) T c.ns l c.env) (by rw[B.ns];exact tx hpl T ns c.env h2) (eX t T c.ns [] c.env)
end
def vo(L:dX)(O:aL)(n:Nat)(T:Tab)(S:Kinds)(ns:List Str)(s:St):Prop := ∀(m:Md) (c:Cx),s.aB L T S ns=true->Bd L O n T S ns c->hZ c m->SS c T O m s
def nj(L:dX)(O:aL)(n:Nat)(T:Tab)(S:Kinds)(ns:List Str)(s:av):Prop := ∀(m:Md) (c:Cx),s.aB L T S ns=true->Bd L O n T S ns c->hZ c m->ie c T O m s
theorem su{f:av}(h:f.isNil=false): ∃st ss,f = .cons st ss:=by
 cases f with
 |nil=>exact H' h
 |cons st ss=>exact⟨st,ss,rfl⟩
theorem Cr{b:av}{C:Ex}{i:Nat}{h':av}{ph p:Nat}(ib:nj L O n T S ns b)(ih:nj L O n T S ns h'):vo L O n T S ns (.gQ b C i h' ph p):=fun m c h B hm=>by
 obtain⟨g,gp,rfl⟩:=zP (a2 (a1 (a1 (a1 h))));obtain⟨st,ss,rfl⟩:=su (gf (a2 (a1 (a1 h))));obtain⟨Lf,hL⟩:=B.frame;cases m with
 |free=>exact FJ (ib _ c (a1 (a1 (a1 (a1 (a1 h))))) B hm) (fun k a=>ux (B.cD k a)) (fun k a=>ih (.hold k) (c.cD k a) (a2 (a1 (a1 (a1 (a1 h))))) (B.cD k a) ⟨a,rfl,rfl⟩) hL (by rw[B.ns];exact getD_at (cp (a2 (a1 h)))) ((B.kind _).trans (beq_iff_eq.mp (a2 h)))
 |_=>exact fun ρ Γ => .of fun τ θ s hn S=>absurd rfl hn
theorem CL{b f:av}{p:Nat}(ib:nj L O n T S ns b)(ih:nj L O n T S ns f):vo L O n T S ns (.iJ b f p):=fun m c h B hm=>by
 obtain⟨st,ss,rfl⟩:=su (gf (a2 h));obtain⟨Lf,hL⟩:=B.frame;cases m with
 |free=>exact Ew (ib _ c (a1 (a1 h)) B hm) (ih _ c (a2 (a1 h)) B hm) (fun k a=>ih (.hold k) (c.cD k a) (a2 (a1 h)) (B.cD k a) ⟨a,rfl,rfl⟩) hL
 |_=>exact fun ρ Γ => .of fun τ θ s hn S=>absurd rfl hn
theorem Fb{t it:Ex}{b:av}{p:Nat}(ib:nj L O n T S ns b):vo L O n T S ns (.kz t it b p):=fun m c h B hm=>by
 obtain⟨Lf,hL⟩:=B.frame;exact G1 ((c9.1 it).se (a2 (a1 h)) B hm.hm) (fun hf I o=>(c9.1 t _ _ _ _ _ (c.hold I o)).2 (a1 (a1 h)) (Ox _) (B.hold I o) fun _=>hf) (fun hf I o=>ib .free (c.hold I o) (a2 h) (B.hold I o) hf) hL hm.hm
theorem Hq(s:av):nj L O n T S ns s := @av.rec (vo L O n T S ns) (nj L O n T S ns)
 (fun e p m c h B hm=>D6 ((c9.1 e).se (a1 h) B hm.hm) (by unfold interactive;rw[B.fk];rfl) (vq (gf (a2 h)) T c.ns _ c.env))
 (fun t e p m c h B hm=>HR h B hm)
 (fun i op e pn p m c h B hm=>H0 ((c9.1 e).se (a1 h) B hm.hm) (B.ns▸cp (a2 h)) (wQ B i))
 (fun a i op e pa p m c h B hm=>Gr ((c9.1 a).se (a1 (a1 h)) B hm.hm) ((c9.1 e).se (a2 (a1 h)) B hm.hm) (cp (a2 h)))
 (fun t a b p ia ib m c h B hm=>JP (c9.2.1 t _ _ _ _ m c (a1 (a1 h)) B hm.hm) (ia m c (a2 (a1 h)) B hm) (ib m c (a2 h) B hm))
 (fun t b p ib m c h B hm=>let ⟨_,hL⟩:=B.frame;GW (c9.2.1 t _ _ _ _ m c (a1 h) B hm.hm) (ib m c (a2 h) B hm) hL)
 (fun t it b p ib=>Fb ib)
 (fun e p m c h B hm=>HW ((c9.1 e).se h B hm.hm)) (fun p m c h B hm=>Gn) (fun e p m c h B hm=>Di ((c9.1 e).se h B hm.hm) hm)
 (fun b C i h ph p ib ih=>Cr ib ih) (fun b f p ib ih=>CL ib ih) (fun p m c h B hm=>Ic)
 (fun m c h B hm=>GL) (fun s ss is iss m c h B hm=>Bs (is m c (a1 h) B hm) (iss m c (a2 h) B hm)) s
theorem Be{w:World}{F:Fn}{N:Nat}(hN:N<=201)(hO:eA w T.fa O N)(hF:gJ w T)(hl:u6 L w T)(h:F.body.aB L {T with gn:=F.gl} S F.ns=true):oE w T F S O N:=fun c B hlv m hm hmm ρ Γ=>by
 have hm':hZ c m:=by
  rcases hmm with rfl | rfl
  ·exact hm rfl
  ·trivial
 obtain rfl:=B.w;have Bd':Bd L O N {T with gn:=F.gl} S F.ns c:=⟨B.ns,B.kind,hlv,bg (N0 ‹_› ‹_›),hO,hF,B.room,⟨_,B.frame⟩,B.own,B.fk,B.gl,⟨hl.gt,hl.um,hl.oi,fun C a x k e=>let ⟨g1,g2,g3⟩:=hl.new C a x k e;⟨g1,fun q=>let N:=g2 q;⟨N.keep,N.makes,N.init,N.fn,N.cls⟩,fun q=>let N:=g3 q;⟨N.keep,N.cls,N.init,N.fn⟩⟩⟩⟩
 have:=Hq (T:={T with gn:=F.gl}) F.body m c h Bd' hm' ρ Γ
 rw[B.ns] at this;exact this
end
noncomputable def fdOf:Data->R9
 | .func fd=>fd
 |_=>{name:="",qualname:="",params:=default,body := .stmts [],scope:=default,globals:=0,closure:=[],defaults := .none,kwdefaults := .none}
noncomputable def Aj:Data->Option (Array Value)
 | .fields vs=>some vs
 |_=>none
noncomputable def ck:Value->Option Str
 | .str x _=>some x
 |_=>none
noncomputable def codeB(K:U3)(fd:R9):Bool:=fP ((Value.fu fd.code).bind fun c=>(K.lookup c).bind fun o=>(Aj o.data).bind fun vs=>(vs[1]?).bind fun v=>(ck v).map fun x=>x==fd.qualname)
noncomputable def Jk(K:U3)(fd:R9):Bool:=(fd.scope.kind == .function) && !fd.scope.isCoroutine && !fd.scope.isGenerator&&I' fd.globals mainGlobals&&I' fd.builtins builtinsNs&&fd.closure.isEmpty&&codeB K fd
noncomputable def u3(F:Fn)(S:Kinds):Bool:=
 (F.ns.all fun x=>S.lookup x==some .local||S.lookup x==some .cell)&&lF F.ns&&(S.all fun x => !(x.1==("__debug__":Str)) && !(x.1==("__classdict__":Str)))&&F.gl.all (u4 LB S)&&OB F.np F.ns.length&&F.body.aB LB {TT with gn:=F.gl} S F.ns
structure DC(P:Of)(F:Fn)(S:Kinds)(a:Addr)(o:Obj):Prop where
 look:(KK P).lookup a=some o
 data:o.data = .func (fdOf o.data)
 body:(fdOf o.data).body = .stmts (F.body.back {TT with gn:=F.gl} F.ns)
 sk:(fdOf o.data).scope.names=S
 st:Jk (KK P) (fdOf o.data)=true
 binds : ∀(s:Shared) (vs:List Value),(KK P).In s.heap->vs.length<=F.np->F.np-vs.length<=F.df.length->∃ds,ds.length=F.np-vs.length/\BindsTo s (fdOf o.data) ⟨vs,[]⟩ ((F.ns.take F.np).zip (vs++ds))/\∀τ,bz τ (F.df.drop (F.df.length-(F.np-vs.length))) ds
theorem yk{d:Data}{vs}(h:Aj d=some vs):d = .fields vs:=by
 cases d with
 |fields x=>exact congrArg Data.fields (j' h)
 |_=>exact aE h
theorem cC{v:Value}{x}(h:ck v=some x): ∃t,v = .str x t:=by
 cases v with
 |str y t=>exact⟨t,congrArg (Value.str · t) (j' h)⟩
 |_=>exact aE h
theorem yT{K:U3}{fd:R9}(h:codeB K fd=true){hp:Po}(X:K.In hp):hp.CodeRec fd.code fd.qualname:=by
 obtain⟨c,h1,h⟩:=ai (cK h);obtain⟨o,h2,h⟩:=ai h;obtain⟨vs,h3,h⟩:=ai h;obtain⟨v,h4,h⟩:=ai h;obtain⟨x,h5,h6⟩:=aJ h;obtain⟨t,rfl⟩:=cC h5;exact⟨c,o,vs,t,Value.gS h1,X _ _ h2,yk h3,by rw[h4,show x=fd.qualname from eq_of_beq h6]⟩
theorem tv{S:Kinds}{x:Str}{k:NameKind}(h:S.lookup x=some k): ∃p∈S,p.1=x:=⟨(x,k),mem_of_lookup h,rfl⟩
theorem iH{α:Type}{p:α->Bool}{l:List α}(h:l.all p=true){a:α}(ha:a∈l):p a=true:=OV.mp h a ha
theorem DC.at{w:World}{F:Fn}{S:Kinds}{a:Addr}{o:Obj}(h:DC w.params F S a o)(hs:u3 F S=true)(hl : ∀p∈LB.gt,GV (KK w.params) p.1 p.2):FnAt w TT F S a o (fdOf o.data):=by
 have st:=h.st;have sk:=h.sk;refine⟨fun hp X=>⟨X _ _ h.look,yT (a2 st) X⟩,h.data,h.body,beq_iff_eq.mp (a1 (a1 (a1 (a1 (a1 (a1 st)))))),gf (a2 (a1 (a1 (a1 (a1 (a1 st)))))),gf (a2 (a1 (a1 (a1 (a1 st))))),N2 (a2 (a1 (a1 (a1 st)))),N2 (a2 (a1 (a1 st))),QF.mp (a2 (a1 st)),sk,fun x hx => ?_,lT (a2 (a1 (a1 (a1 (a1 hs))))),fun x k e => ?_,fun q hq => ?_,N9 (a2 (a1 hs)),h.binds⟩
 ·rw[sk]
  exact(QX.mp (iH (a1 (a1 (a1 (a1 (a1 hs))))) hx)).imp beq_iff_eq.mp beq_iff_eq.mp
 ·rw[sk] at e
  obtain⟨p,hp,rfl⟩:=tv e;have:=iH (a2 (a1 (a1 (a1 hs)))) hp;exact⟨gf (a1 this),gf (a2 this)⟩
 ·obtain⟨v,e1,e2,e3⟩:=tQ (w:=w) hl (iH (a2 (a1 (a1 hs))) hq)
  exact⟨v,e1,e2,by rw[sk];exact e3⟩
noncomputable def oo(P:Of)(k:Nat):Obj:=((KK P).lookup (TT.fa.getD k 0)).getD default
noncomputable def fo(P:Of)(k:Nat):R9:=fdOf (oo P k).data
noncomputable def Fk(k:Nat):Fn:=(FF k).getD f0
noncomputable def p5(k:Nat):List Value:=cond (I' k 0) [(.ref 131)]<|cond (I' k 23) [(.bool false)]<|cond (I' k 31) [(.bool false)]<|cond (I' k 65) [(.ref 73),(.int 0 270),(.int 0 271)]<|cond (I' k 67) [(.int 40 841),.none]<|cond (I' k 70) [(.int 40 999),.none]<|[]
noncomputable def IZ:D->Value->Bool
 | .none,v=>v == .none
 | .bool b,v=>v == .bool b
 | .int i,v=>match v with
  | .int j _=>decide (i=j)
  |_=>false
 | .val x,v=>uK x v
 |_,_=>false
noncomputable def uZ:List D->List Value->Bool
 | [],v=>v.isEmpty
 |d::ds,v=>(v.head?.any fun u=>IZ d u)&&uZ ds v.tail
noncomputable def I2(F:Fn):List Nat:=(OX (F.df.length+1)).map fun i=>F.np-F.df.length+i
theorem Fu(P:Of):((OX 78).all fun k=>((KK P).lookup (TT.fa.getD k 0)).isSome)=true:=by kernel_rfl
theorem ED(P:Of):((OX 78).map fun k=>((oo P k).data,(fo P k).body,(fo P k).scope.names,Jk (KK P) (fo P k)))=(OX 78).map fun k=>(.func (fo P k),.stmts ((Fk k).body.back {TT with gn:=(Fk k).gl} (Fk k).ns),kR k,true):=by kernel_rfl
noncomputable def zC(v0 v1 v2 v3 v4 v5:Value):List Value:=[v0,v1,v2,v3,v4,v5]
theorem Et(P:Of)(S:Setting)(v0 v1 v2 v3 v4 v5:Value):((OX 78).map fun k=>(I2 (Fk k)).map fun j=>peek (KK P) S (bindArgs (fo P k) ⟨(zC v0 v1 v2 v3 v4 v5).take j,[]⟩))=(OX 78).map fun k=>(I2 (Fk k)).map fun j=>some (((Fk k).ns.take (Fk k).np).zip ((zC v0 v1 v2 v3 v4 v5).take j++(p5 k).drop ((p5 k).length-((Fk k).np-j)))):=by kernel_rfl
theorem JH:((OX 78).all fun k=>uZ (Fk k).df (p5 k)&&I' (Fk k).df.length (p5 k).length&&OB (Fk k).np 6&&OB (Fk k).df.length (Fk k).np&&u3 (Fk k) (kR k))=true:=by kernel_rfl
theorem z1{k:Nat}{F:Fn}(h:FF k=some F):k<78:=(N3.mp h).1
theorem Ba{k:Nat}{F:Fn}(h:FF k=some F):Fk k=F:=by unfold Fk;rw[h];rfl
theorem DL{τ:aF}{d:D}{v:Value}(h:IZ d v=true):VR τ d v:=by
 cases d with
 |none=>exact eq_of_beq h
 |bool b=>exact eq_of_beq h
 |int i=>
  cases v with
  |int j t=>exact⟨t,by rw[of_decide_eq_true h]⟩
  |_=>exact H' h
 |val x=>exact(lj h).symm
 |_=>exact H' h
theorem CV{τ:aF}{ds:List D}: ∀{vs:List Value},uZ ds vs=true->bz τ ds vs:=by
 induction ds with
 |nil=>intro vs h;cases vs with
  |nil=>trivial
  |cons=>exact H' h
 |cons d ds ih=>intro vs h;cases vs with
  |nil=>exact H' h
  |cons v vs=>exact⟨DL (a1 h),ih (a2 h)⟩
theorem BM{vs:List Value}(h:vs.length<=6): ∃v0 v1 v2 v3 v4 v5,(zC v0 v1 v2 v3 v4 v5).take vs.length=vs:=
 ⟨vs.getD 0 .none,vs.getD 1 .none,vs.getD 2 .none,vs.getD 3 .none,vs.getD 4 .none,vs.getD 5 .none,by
  show((OX 6).map fun i=>vs.getD i .none).take vs.length=vs
  refine List.ext_getElem (by simp;lia) fun i h1 h2 => ?_
  simp[O8,h2]⟩
theorem uY{α:Type}{f g:Nat->α}{l:List Nat}(h:l.map f=l.map g){k:Nat}(hk:k∈l):f k=g k:=Sl.mp h k hk
theorem stats{k:Nat}(hk:k<78):uZ (Fk k).df (p5 k)=true/\(Fk k).df.length=(p5 k).length/\(Fk k).np<=6/\(Fk k).df.length<=(Fk k).np/\u3 (Fk k) (kR k)=true:=by
 have h:=OV.mp JH k (P0.mpr hk);exact⟨a1 (a1 (a1 (a1 h))),N2 (a2 (a1 (a1 (a1 h)))),N9 (a2 (a1 (a1 h))),N9 (a2 (a1 h)),a2 h⟩
theorem C3(P:Of){k:Nat}(hk:k<78)(s:Shared)(vs:List Value)(X:(KK P).In s.heap)(h1:vs.length<=(Fk k).np)(h2:(Fk k).np-vs.length<=(Fk k).df.length):
  ∃ds,ds.length=(Fk k).np-vs.length/\BindsTo s (fo P k) ⟨vs,[]⟩ (((Fk k).ns.take (Fk k).np).zip (vs++ds))/\∀τ,bz τ ((Fk k).df.drop ((Fk k).df.length-((Fk k).np-vs.length))) ds:=by
 obtain⟨q1,q2,q3,q4,_⟩:=stats hk;obtain⟨v0,v1,v2,v3,v4,v5,hv⟩:=BM (N0 h1 q3);refine⟨(p5 k).drop ((p5 k).length-((Fk k).np-vs.length)),by rw[Pd];exact Ry (q2▸h2),kp_binds X fun S => ?_,fun τ => ?_⟩
 ·have h:=uY (uY (Et P S v0 v1 v2 v3 v4 v5) (P0.mpr hk)) (k:=vs.length) (Q2.mpr ⟨vs.length-((Fk k).np-(Fk k).df.length),P0.mpr (Vm (N0 (RX h1 _) (Sp (Ry q4)))),PZ (Uk.mpr (Ua .. ▸Uk.mp h2))⟩)
  rw[hv] at h;exact h
 ·rw[q2];exact bz.drop _ (CV q1)
theorem DJ(P:Of)(k:Nat)(F:Fn)(h:FF k=some F):DC P F (kR k) (TT.fa.getD k 0) (oo P k):=by
 have hk:=z1 h;have hb:=uY (ED P) (P0.mpr hk);obtain rfl:=Ba h;obtain⟨o,ho⟩:=SY.mp (OV.mp (Fu P) k (P0.mpr hk));exact⟨by unfold oo;rw[ho];rfl,congrArg (·.1) hb,congrArg (·.2.1) hb,congrArg (·.2.2.1) hb,congrArg (·.2.2.2) hb,C3 P hk⟩
noncomputable def Jb(K:U3)(x:Str)(v:Value):Bool:=fP ((nsIn K mainGlobals x).map fun o=>match o with
 |some u=>uK u v
 |none=>fP ((RT x).map fun u=>uK u v) && !(x==("__name__":Str)))
theorem Ff{K:U3}{x:Str}{v:Value}(h:Jb K x v=true):GV K x v:=by
 obtain⟨o,h1,h⟩:=aJ (cK h);cases o with
 |some u=>exact .inl (lj h▸h1)
 |none=>
  obtain⟨u,h2,h3⟩:=aJ (cK (a1 h));exact .inr ⟨h1,lj h3▸h2,beq_eq_false_iff_ne.mp (gf (a2 h))⟩
theorem Nd(P:Of):(LB.gt.all fun p=>Jb (KK P) p.1 p.2)=true:=by kernel_rfl
theorem KQ(P:Of):(LB.um.map fun k=>(PU (KK P) (.ref 679) (TT.fn.getD k ""),T5 (KK P) (.ref (TT.fa.getD k 0))))=LB.um.map fun k=>(some (some (.ref (TT.fa.getD k 0))),some (.type "function")):=by kernel_rfl
theorem JN:(LB.um.all fun k=>OI k TT.fa.length && !(AN.contains (TT.fn.getD k "")))=true:=by decide +kernel
theorem Ii(w:World):pz w TT 523 67:=⟨by kernel_rfl,.type "type",by kernel_rfl,by kernel_rfl⟩
theorem GY(w:World):pT w TT 679 70:=⟨by kernel_rfl,by kernel_rfl,by kernel_rfl,by kernel_rfl,.inl rfl⟩
theorem Ha(w:World):pT w TT 438 66:=⟨by kernel_rfl,by kernel_rfl,by kernel_rfl,by kernel_rfl,.inr rfl⟩
theorem JY(w:World):sq w TT 84 65:=⟨by kernel_rfl,rfl,by kernel_rfl,by kernel_rfl⟩
theorem u9:TT.fa.length=78:=by decide +kernel
theorem E7(w:World)(C:Nat)(q:Addr×Bool×Nat)(h:TT.ca[C]?=some q):q.2.2<78/\(q.2.1=false->pT w TT q.1 q.2.2)/\(q.2.1=true->sq w TT q.1 q.2.2):=by
 have e:TT.ca=[(679,false,70),(84,true,65),(438,false,66)]:=rfl;rw[e] at h
 match C,h with
 |0,h=>injection h with h;subst h;exact⟨by decide,fun _=>GY w,nofun⟩
 |1,h=>injection h with h;subst h;exact⟨by decide,nofun,fun _=>JY w⟩
 |2,h=>injection h with h;subst h;exact⟨by decide,fun _=>Ha w,nofun⟩
theorem wG(w:World):u6 LB w TT:=by
 refine⟨fun p hp=>Ff (iH (Nd w.params) hp),fun k hk => ?_,fun p hp => ?_,fun C a x k h=>u9▸E7 w C (a,x,k) h⟩
 ·have h:=Sl.mp (KQ w.params) k hk
  have h2:=iH JN hk;exact⟨cp (a1 h2),congrArg (·.1) h,congrArg (·.2) h,fun q=>by rw[Uc.mpr q] at h2;exact H' (a2 h2)⟩
 ·cases O7.mp hp
  exact⟨by rw[u9];decide,Ii w⟩
theorem EZ(w:World):gJ w TT:=fun k hk=>by
 rw[u9] at hk;have:=DJ w.params k _ (N8 (l:=FL) hk);exact⟨_,_,this.data,fun h X=>X _ _ this.look⟩
theorem Jo{k:Nat}{F:Fn}(h:FF k=some F):u3 F (kR k)=true:=Ba h▸(stats (z1 h)).2.2.2.2
theorem AU(w:World): ∀k F,FF k=some F->∃o fd,FnAt w TT F (kR k) (TT.fa.getD k 0) o fd:=fun k F h=>⟨_,_,(DJ w.params k F h).at (Jo h) (wG w).gt⟩
theorem xf(w:World): ∀k F O n,FF k=some F->n<=201->eA w TT.fa O n->oE w TT F (kR k) O n:=fun k F O n h hn hO=>Be hn hO (EZ w) (wG w) (a2 (Jo h))
theorem yR(w:World)(n N:Nat)(h:n+N<=200):eA w TT.fa (calls TT FF n) N:=sf (AU w) (xf w) n N h
noncomputable def hole(h:Po)(a:Addr):Po:={h with objs:=h.objs.setIfInBounds a {cls := .none,data := .freed}}
theorem iQ{h:Po}{a b:Addr}(e:b≠a):(hole h a).get? b=h.get? b:=by
 unfold hole TL;simp only;rw[OR (PF e)]
theorem xg{h:Po}{a:Addr}:(hole h a).get? a=none:=by
 unfold hole TL;simp only;by_cases q:a<h.objs.size
 ·rw[Array.getElem?_setIfInBounds_self_of_lt q]
 ·rw[Array.getElem?_eq_none (by simpa using q)]
theorem qu{h:Po}{a b:Addr}{o:Obj}(e:(hole h a).get? b=some o):b≠a/\h.get? b=some o:=by
 have q:b≠a:=by rintro rfl;injection (xg ..).symm.trans e
 exact⟨q,by rw[iQ q] at e;exact e⟩
theorem FG(P:Of):((KK P).all fun p => !(p.2.cls == .type "list"))=true:=by kernel_rfl
theorem NZ(P:Of): ∃o,(KK P).lookup 847=some o:=⟨_,(DJ P 64 jC rfl).look⟩
theorem Hi(P:Of): ∃o,(KK P).lookup QR=some o:=by
 cases q:(KK P).lookup QR with
 |some o=>exact⟨o,rfl⟩
 |none=>
  have:((KK P).lookup QR).isSome=true:=by kernel_rfl
  rw[q] at this;cases this
theorem mI{o:Obj}{a:Addr}: ∀{l:List (Addr×Obj)},l.lookup a=some o->(a,o)∈l
 |(k,v)::r,h=>by
  rw[ON] at h;cases hb:a==k with
  |true=>rw[hb] at h;cases h;rw[beq_iff_eq.mp hb];exact UO
  |false=>rw[hb] at h;exact QN _ (mI h)
theorem wD{w:World}{h:Po}{La:Addr}{oL:Obj}{vs:Array Value}{n:Nat}(hK:(KK w.params).In h)(hT : ∃mg mb,h.Ns mainGlobals mg/\h.Ns builtinsNs mb/\h.NoLimit/\∀x:Str,x≠"__name__"->mb x=RT x)(hL:h.get? La=some oL)(hc:oL.cls = .type "list")(hd:oL.data = .seq vs n):Base w (hole h La):=by
 have kne : ∀a o,(KK w.params).lookup a=some o->a≠La:=fun a o e q=>by
  subst q;have:=hK _ _ e;injection hL.symm.trans this with this;subst this
  have:=OV.mp (FG w.params) _ (mI e);rw[hc] at this;simp at this
 have nne : ∀a m,h.Ns a m->a≠La:=fun a m q e=>by
  subst e;obtain⟨o,es,ep,h1,h2,_⟩:=q;injection hL.symm.trans h1 with h1;subst h1
  injection hd.symm.trans h2
 have nk : ∀a m,h.Ns a m->(hole h La).Ns a m:=fun a m q=>pM (h:=hole h La) (h':=h) (iQ (nne a m q)).symm q
 refine⟨?_,fun a o e=>by rw[iQ (kne a o e)];exact hK a o e,?_⟩
 ·obtain⟨o,e⟩:=Hi w.params
  exact⟨o,by rw[iQ (kne _ _ e)];exact hK _ _ e⟩
 ·obtain⟨mg,mb,h1,h2,⟨mc,h3,h4⟩,h5⟩:=hT
  exact⟨mg,mb,nk _ _ h1,nk _ _ h2,⟨mc,nk _ _ h3,h4⟩,h5⟩
noncomputable def topC(w:World)(s:Shared)(La:Addr)(env:R0):Cx:={w:=w,h0:=hole s.heap La,os:=s.os,A:=WE.deeper env,env:=env,held:=fun _=>none,lv:=1,ns:=oJ}
noncomputable def iF(s:Shared)(La:Addr)(oL:Obj)(l:List D):aF:=fun a=>if a=La then some (.lst l (some oL)) else((hole s.heap La).get? a).map .obj
set_option tactic.hygienic true in
theorem GF {w:World} {s OU:Shared} {La:Addr} {oL:Obj} {vs:Array Value} {n:Nat} {l:List D} {env:R0} {m cm} {ρ:aq} (hB:Base w (hole s.heap La)) (hL:s.heap.get? La=some oL) (hc:oL.cls = .type "list") (hd:oL.data = .seq vs n) (hI : ∀τ,bz τ l vs.toList) (hg:s.gens = #[]) (hsz:848<=s.heap.objs.size)
  (E:oS env oJ) (I:InCallC s env.locals m env.cells cm OU) (hl:ρ.length=oJ.length) (hk : ∀x∈oJ,env.kindOf x=some .local)
  (hloc : ∀(i:Nat) (x:Str) (v:V),oJ[i]?=some x->ρ[i]?=some (some v)->∃u,m x=some u/\VV (iF s La oL l) [] v u):SR (topC w s La env) (iF s La oL l) [] ρ [] OU:=by
 obtain⟨Rr,tk,rfl⟩:=I.toInCall.same;have keep:=I.toInCall.keep;have fresh:s.heap.objs.size<=env.locals:=I.toInCall.fresh;have tfresh:iF s La oL l env.locals=none:=by
  have h1:La<s.heap.objs.size:=PC hL;have h2:env.locals≠La:=T9 (Rb h1 fresh);simp only[iF,if_neg h2,iQ h2,RP fresh,Option.map_none]
 have n0 : ∀{α:Type} {n:Nat} {a:α},([]:List α)[n]?=some a->False:=fun e=>by simp at e
 refine⟨⟨hB,E.kind,E.globals,E.builtins,E.eL,E.cX,fun x hx => .inl (hk x hx),E.once,rfl,fun a o e=>(by injection e),E.dW,N0 hsz fresh,(by show WE.depth+1<=301+3 * 1;decide),(by show 4+3<=10+10 * 1;decide),⟨[env],rfl,⟨env,[],rfl,rfl⟩,fun e he => ?_⟩⟩,hl,
  ⟨fun a=>if a=env.locals then some .fr else(iF s La oL l a).map .bp,⟨fun a o e => ?_,fun a p => ?_,if_pos rfl,fun mv hm i x v hx hv _ => ?_,fun i x hx hnk => ?_,fun a o e=>(by injection e),⟨rfl,fun k a e=>(by injection e)⟩,fun n m a e _=>(n0 e).elim,fun n a e=>(n0 e).elim,fun n a m e _=>(n0 e).elim⟩⟩,fun a o e => ?_,hg,rfl⟩
 ·have:e=env:=by simpa using he
  subst this;exact⟨by rw[E.kind];simp,e.locals,E.frame,.inl rfl⟩
 ·split at e
  ·rename_i q;subst q;injection e with e;subst e;exact⟨m,I.toInCall.ns⟩
  ·simp only[iF] at e
   split at e
   ·rename_i q;subst q
    injection e with e;subst e
    exact⟨⟨vs,⟨oL,keep _ _ hL,hc,n,hd⟩,hI _⟩,fun x q=>by injection q with q;subst q;exact keep _ _ hL⟩
   ·cases q:(hole s.heap La).get? a with
    |none=>rw[q] at e;cases e
    |some o'=>rw[q] at e;cases e;exact keep _ _ (qu q).2
 ·by_cases q:a=env.locals
  ·subst q
   rw[tfresh,if_pos rfl];exact⟨fun e=>(by injection e),fun e=>(by cases e)⟩
  ·rw[if_neg q]
   cases h:iF s La oL l a with
   |none=>exact⟨fun e=>(by injection e),fun e=>(by injection e)⟩
   |some p'=>exact⟨fun e=>(by injection e with e;subst e;rfl),fun e=>(by cases e;rfl)⟩
 ·have:mv=m:=fq hm I.toInCall.ns
  subst this;exact hloc i x v hx hv
 ·exact absurd (hk x (Og hx)) hnk
 ·obtain⟨q,e'⟩:=qu e
  show iF s La oL l a=_
  have e0:(hole s.heap La).get? a=some o:=e;simp only[iF,if_neg q,e0,OD]
theorem Kn:(oJ.all fun x=>(kR 64).lookup x==some .local)=true:=by decide +kernel
theorem zK{r:Res Fl}{Γ:ag}(h:r.out = .ok (.d (.bool true)) Γ): ∃ρ,r = .ok (.ret (.d (.bool true))) ρ Γ:=by
 cases r with
 |ok f ρ Γ'=>
  cases f with
  |ret d=>cases h;exact⟨_,rfl⟩
  |next=>cases h
  |brk=>cases h
  |cont=>cases h
 |ex=>cases h
 |no=>cases h
theorem zG {w:World} {s:Shared} {La:Addr} {oL:Obj} {vs:Array Value} {n:Nat} {l:List D} {Γ':ag} (hK:(KK w.params).In s.heap) (hT : ∃mg mb,s.heap.Ns mainGlobals mg/\s.heap.Ns builtinsNs mb/\s.heap.NoLimit/\∀x:Str,x≠"__name__"->mb x=RT x)
  (hL:s.heap.get? La=some oL) (hc:oL.cls = .type "list") (hd:oL.data = .seq vs n) (hI : ∀τ,bz τ l vs.toList) (hg:s.gens = #[]) (hev:calls TT FF 60 true 64 [.d (.lst l)] [] = .ok (.d (.bool true)) Γ') :
  SP (M' PG w) WE (.call (.ref 847) ⟨[.ref La],[]⟩) (fun r s'=>r = .ok (.ret (.bool true))/\(∀b o,s.heap.get? b=some o->s'.heap.get? b=some o)/\s'.os=s.os/\s'.gens = #[]) s:=by
 have hB:=wD hK hT hL hc hd;obtain⟨o,fd,hF⟩ : ∃o fd,FnAt w TT jC (kR 64) 847 o fd:=AU w 64 jC rfl;obtain⟨ho,hcd⟩:=hF.here _ hK;have hsz:848<=s.heap.objs.size:=PC ho;obtain⟨ds,d1,hbind,d2⟩:=hF.binds s [.ref La] hK (by show 1<=1;decide) (by show 1-1<=0;decide)
 obtain rfl:ds=[]:=TM.mp d1;refine Vj (by decide) ho hF.data hF.I0 hF.ngen hF.body hcd (hbind _ _ _ _ ?_)
 rw[hF.closure];have hkind : ∀x∈(jC.ns.take jC.np).zip ([Value.ref La]++[]),fd.scope.names.lookup x.1=some .local\/(fd.scope.names.lookup x.1=some .cell/\((PD (s.heap.objs.size+1) fd.scope.names []).lookup x.1).isSome=true):=fun x hx=>by
  have hx':x=(("script":Str),Value.ref La):=by
   have:x∈[(("script":Str),Value.ref La)]:=hx;simpa using this
  subst hx';left;rw[hF.sk];show(kR 64).lookup ("script":Str)=_
  decide +kernel
 refine TZ hF.kind hkind fun env he OU I => ?_
 have hko : ∀x,env.kindOf x=(kR 64).lookup x:=fun x=>by rw[he,<-hF.sk];rfl
 have hloc64 : ∀x∈oJ,env.kindOf x=some .local:=fun x hx=>by
  rw[hko];have:=OV.mp Kn x hx;simpa using this
 have hE:oS env oJ:=A8 (N:=s.heap.objs.size) hF (by rw[he];rfl) (by rw[he];rfl) (by rw[he];rfl) (by rw[he];rfl) (by rw[he];rfl) fun x y a h1 h2=>UY I.apart (mem_of_lookup h1) (mem_of_lookup h2)
 have hscript:Vv env.kindOf ((jC.ns.take jC.np).zip ([Value.ref La]++[])) (fun _=>none) "script"=some (.ref La):=by
  show Vv env.kindOf [(("script":Str),Value.ref La)] (fun _=>none) "script"=_
  simp only[Vv];rw[if_pos (hloc64 _ (by decide +kernel))]
  simp
 have Ot:=GF (w:=w) (ρ:=[some (.d (.lst l)),none,none]) hB hL hc hd hI hg hsz hE I rfl hloc64 fun i x v hx hv=>by
  match i,hx,hv with
  |0,hx,hv=>
   cases hv;have:x=("script":Str):=by
    have:some ("script":Str)=some x:=hx;injection this with this;subst this;rfl
   subst this;exact⟨_,hscript,La,rfl,some oL,by simp[iF]⟩
  |1,hx,hv=>cases hv
  |2,hx,hv=>cases hv
  |_+3,hx,hv=>simp at hv
 refine⟨?_,codeAny_func ?_⟩
 ·obtain⟨mg,mb,t1,t2,t3,t4⟩:=Ot.wf.base.T
  exact t3.keeps Ot.keep
 have hBC:rR w jC (kR 64) (topC w s La env):=⟨rfl,rfl,fun q hq=>let ⟨v,e1,e2,e3⟩:=hF.gl q hq;⟨v,e1,e2,by show env.kindOf q.1=_;rw[he];exact e3⟩,hko,by show env.scope.kind=_;rw[he];exact hF.kind,by show env.frame=_;rw[he];rfl,fun x hx=>by show env.kindOf x≠_;rw[hloc64 x hx];simp,⟨(by show WE.depth+1+2<=301+3 * 1;decide),(by show 4+3+7<=10+10 * 1;decide)⟩⟩
 have hout:=xf w 64 jC (calls TT FF 59) 1 rfl (by decide) (yR w 59 1 (by decide)) (topC w s La env) hBC (Ox _) .free (fun _=>rfl) (.inl rfl) [some (.d (.lst l)),none,none] []
 have hev':(jC.body.ex {TT with gn:=jC.gl} (calls TT FF 59) .free [some (.d (.lst l)),none,none] []).out = .ok (.d (.bool true)) Γ':=hev
 obtain⟨O3,hres⟩:=zK hev';refine fA (Ob (Sd.ok hout hres Ot) (fun f s' H => ?_) fun _ _ x=>x)
 obtain⟨Ow,OT,lq,⟨u,hf,hu⟩,S'⟩:=H;subst hf;have hu':u = .bool true:=hu;subst hu';refine⟨rfl,fun b o' hb => ?_,S'.os,S'.gens⟩
 by_cases q:b=La
 ·subst q
  injection hL.symm.trans hb with hb;subst hb
  obtain⟨σ,K⟩:=S'.own;have:=K.at_ _ _ ((K.bp _ _).mp (lq.l b (.lst l (some oL)) (by show iF s b oL l b=_;unfold iF;rw[if_pos rfl])))
  exact this.2 _ rfl
 ·exact S'.keep b o' (by show(hole s.heap La).get? b=_;rw[iQ q];exact hb)
end Mine
end
section
namespace Mine
theorem yl{τ:aF}: ∀{vs:List Value} {ns:List Int},IntsAre vs ns->bz τ (ns.map .int) vs.toArray.toList:=fun h=>by
 simp only[QU]
 induction h with
 |nil=>trivial
 |cons n t _ ih=>exact⟨⟨t,rfl⟩,ih⟩
set_option tactic.hygienic true in
set_option maxHeartbeats 8000000 in
theorem pf(PL : ∀ns:List Int,ns.length<=63->∃Γ,calls TT FF 60 true 64 [.d (.lst (ns.map .int))] [] = .ok (.d (.bool true)) Γ):PySem.Challenge.rw_pb0573_01.Holds:=by
 refine holds_law Km fun said' => ?_
 refine holds_open (q:=view) (loose:=loose) (Xt:=Xq) (XP:=XL view []) (Yf:=HK.obs) (Ya:=HK.val) (YP:=HK.says) (N:=10476) left HK.of HK.keeps (fun s e=>xl_of s (Ol.mp e).1) XL.keeps (by rfl) (by rfl) (by rfl) (fun s e=>recFacts_of (Ol.mp e).2) (by rfl) said' (by decide +kernel) ⟨rfl,rfl,rfl,rfl,rfl,by decide +kernel⟩ ?hw ?hc
 case hw=>w_witness2
 case hc=>
  intro w Sr OU mg mb G Y fa o pm cd doc dV kV ho hd hcd hD hmg hg args vals as hpre hlay hrd hwl hlo;have KX:=kIn_of Y;refine Ground.open G ?_
  intro T B D TE TW;clear hD hcd hd ho
  wrow_args hpre hlay hrd hwl hlo
  refine enter_call ?_
  refine U0 ?_ (fun _ _ g=>GoodW.toG g)
  have hfa:fa=847:=by
   have h1:mg ("law":Str)=some (.ref fa):=hmg;have h2:=mg_of KX T.g (n:="law") (v := .ref 847) (by kernel_rfl)
   rw[h1] at h2;cases h2;rfl
  subst hfa
  rename_i hL _ _ _ hI _ hlen _
  obtain⟨oL,h1,h2,nn,h3⟩:=hL;obtain⟨Γ,hev⟩:=PL _ (Pe fun q=>hlen (Qo.mpr q))
  refine U0 (zG KX ⟨mg,mb,T.g,T.b,T.nolimit,T.builtins⟩ h1 h2 h3 (fun τ=>yl hI) hg hev) fun r s' H => ?_
  obtain⟨e1,e2,e3,e4⟩:=H;subst e1;refine⟨.inl ⟨.bool true,.bool true,[],rfl,raisesW_false ?_,.bool _,?_,fun q=>⟨.nil,fun a ha=>by cases ha⟩⟩,e2,e3,e4⟩
  ·wrow_none_raised
  ·wrow_post
end Mine
end
section
set_option genSizeOf false
set_option genSizeOfSpec false
set_option genInjectivity false
namespace Mine
inductive AV where
 |d (x:D)
 |pos (j:Nat)
 |fin
 |view
 |loc (n:Nat)
 |tup (l:List AV)
noncomputable abbrev dg:=List (Option AV)
inductive AR (α:Type) where
 |ok (a:α) (ρ:dg) (Γ:ag)
 |no
noncomputable def AR.bind{α β:Type}(r:AR α)(k:α->dg->ag->AR β):AR β:=match r with
 | .ok a ρ Γ=>k a ρ Γ
 | .no => .no
noncomputable def AR.opt{α:Type}(ρ:dg)(Γ:ag)(o:Option α):AR α:=match o with
 |some a => .ok a ρ Γ
 |none => .no
noncomputable def AR.aT{α β:Type}(o:Option α)(k:α->AR β):AR β:=match o with
 |some a=>k a
 |none => .no
noncomputable def AV.d?:AV->Option D
 | .d x=>some x
 |_=>none
noncomputable def AV.pos?:AV->Option Nat
 | .pos x=>some x
 |_=>none
noncomputable def AV.oQ:AV->Bool
 | .view=>true
 |_=>false
noncomputable def AV.Jv:AV->Option AV
 | .d x=>some (.d x)
 | .pos j=>some (.pos j)
 |_=>none
noncomputable def AV.toV:AV->Option V
 | .d x=>some (.d x)
 | .loc n=>some (.loc n)
 |_=>none
noncomputable def AV.nat?(a:AV):Option Nat:=(a.d?.bind D.int?).bind Mine.nat?
noncomputable def AV.fu(a:AV):Option Addr:=(a.d?.bind D.val?).bind Value.fu
noncomputable def AV.A2:AV->Option (AV×AV)
 | .tup l=>two l
 | .d x=>x.ju.bind fun l=>(two l).map fun w=>(.d w.1,.d w.2)
 |_=>none
noncomputable def AV.Eb(a:AV):Option Nat:=(a.d?.bind D.ck).bind one
noncomputable def k8:List AV->Option (List V)
 | []=>some []
 |a::r=>a.toV.bind fun v=>(k8 r).map fun vs=>v::vs
noncomputable def kF:List AV->Option (List D)
 | []=>some []
 |a::r=>a.d?.bind fun x=>(kF r).map fun xs=>x::xs
noncomputable def zj(op:Pq)(b:AV):Option Nat:=cond (isAdd op) b.nat? none
noncomputable def I3(op:Pq)(a b:AV):Option AV:=match a with
 | .pos j=>(zj op b).map fun k => .pos (j+k)
 | .d x=>b.d?.bind fun y=>(gZ op x y).map .d
 |_=>none
noncomputable def jw(op:Pq)(a b:AV):Option AV:=match a with
 | .pos j=>(zj op b).map fun k => .pos (j+k)
 | .d x=>b.d?.bind fun y=>(pe op x y).map .d
 |_=>none
noncomputable def z3(U:Tx)(cl:Bool)(j:Nat):Option Bool:=cond (OI j U.length) (some true) (cond cl (some false) none)
noncomputable def JW(U:Tx)(cl:Bool)(op:Rp)(j:Nat):Option Bool:=match op with
 | .Lt=>z3 U cl j
 | .GtE=>(z3 U cl j).map (!·)
 |_=>none
noncomputable def JM(op:Rp)(j k:Nat):Option Bool:=match op with
 | .Lt=>some (!OB k j)
 | .GtE=>some (OB k j)
 | .Eq=>some (I' j k)
 |_=>none
noncomputable def JU(op:Rp)(k:Nat):Option Bool:=match op with
 | .Lt=>cond (I' k 0) (some false) none
 |_=>none
noncomputable def F3(U:Tx)(cl:Bool)(Γ:ag)(op:Rp)(a b:AV):Option Bool:=match a with
 | .pos j=>match b with
  | .pos k=>JM op j k
  | .fin=>JW U cl op j
  | .d x=>(x.int?.bind Mine.nat?).bind (JU op)
  |_=>none
 | .d x=>b.d?.bind fun y=>iG Γ op (.d x) (.d y)
 |_=>none
noncomputable def Au(U:Tx)(Γ:ag)(a b:AV):Option AV:=match a with
 | .view=>b.pos?.bind fun j=>(U[j]?).map fun c => .d (.str [c])
 | .d x=>b.d?.bind fun y=>(cF Γ (.d x) (.d y)).bind fun z=>z.d?.map .d
 |_=>none
noncomputable def Fs(U:Tx)(cl:Bool)(a b c:AV):Option AV:=cond a.oQ (b.pos?.bind fun i=>c.pos?.bind fun j=>cond (cl||OB j U.length) (some (.d (.str (cut U (min i U.length) (min j U.length))))) none) none
noncomputable def Fq(b:Bi)(vs:List AV):Option AV:=match b with
 | .len=>(one vs).bind fun v=>cond v.oQ (some .fin) none
 |_=>none
noncomputable def sD(Γ:ag)(b:Bi)(vs:List AV):Option AV:=match Fq b vs with
 |some z=>some z
 |none=>(k8 vs).bind fun us=>(builtin b Γ us).map .d
noncomputable def E8(cl:Bool):Option Nat->Option AV
 |some i=>some (.pos i)
 |none=>cond cl (some (.d (.int (-1)))) none
noncomputable def z5(U:Tx)(cl:Bool)(Γ:ag)(me:Me)(x:AV)(vs:List AV):Option (AV×ag):=match x with
 | .view=>match me with
  | .find=>(two vs).bind fun w=>w.1.Eb.bind fun c=>w.2.pos?.bind fun j=>(E8 cl (dM [c] (U.drop j) j)).map fun z=>(z,Γ)
  |_=>none
 |x=>x.toV.bind fun v=>(k8 vs).bind fun us=>cond (gF Γ me v) ((method Γ me v us).bind fun q=>q.1.d?.map fun z=>(.d z,q.2)) none
noncomputable def AV.bare:AV->Bool
 | .loc _=>false
 |_=>true
noncomputable def xn(Γ:ag)(me:Me)(x:AV):Bool:=match x with
 | .view=>match me with
  | .find=>true
  |_=>false
 |x=>fP (x.toV.map (gF Γ me))
noncomputable abbrev ey:=Nat->List AV->Option AV
noncomputable def RG.EY:RG->Option D
 | .ok v _=>v.d?
 |_=>none
noncomputable def om(AO:ey)(O:aL)(k:Nat)(vs:List AV):Option AV:=match kF vs with
 |some ds=>(O true k (ds.map .d) []).EY.map .d
 |none=>cond (vs.all AV.bare) (AO k vs) none
noncomputable def yA(vs:List AV):Option AV:=match kF vs with
 |some ds=>some (.d (.tup ds))
 |none=>cond (vs.all AV.bare) (some (.tup vs)) none
noncomputable def wZ(a:AV):Option Bool:=a.d?.bind D.truth
mutual
noncomputable def Ex.eh(U:Tx)(cl:Bool)(AO:ey)(O:aL):Ex->Tab->dg->ag->AR AV
 | .none _,T,ρ,Γ => .ok (.d .none) ρ Γ
 | .bool b _,T,ρ,Γ => .ok (.d (.bool b)) ρ Γ
 | .int i _,T,ρ,Γ => .ok (.d (.int i)) ρ Γ
 | .str x _,T,ρ,Γ => .ok (.d (.str x)) ρ Γ
 | .var i _,T,ρ,Γ => .opt ρ Γ (ρ[i]?).join
 | .glob g _,T,ρ,Γ => .opt ρ Γ ((T.gn[g]?).map fun p => .d p.2)
 | .bin op a b _,T,ρ,Γ=>(a.eh U cl AO O T ρ Γ).bind fun x ρ Γ=>(b.eh U cl AO O T ρ Γ).bind fun y ρ Γ => .opt ρ Γ (I3 op x y)
 | .cmp op a b _,T,ρ,Γ=>(a.eh U cl AO O T ρ Γ).bind fun x ρ Γ=>(b.eh U cl AO O T ρ Γ).bind fun y ρ Γ => .opt ρ Γ ((F3 U cl Γ op x y).map fun z => .d (.bool z))
 | .neg a _,T,ρ,Γ=>(a.eh U cl AO O T ρ Γ).bind fun x ρ Γ => .opt ρ Γ ((x.d?.bind D.int?).map fun i => .d (.int (-i)))
 | .tup es _,T,ρ,Γ=>(es.pE U cl AO O T ρ Γ).bind fun vs ρ Γ => .opt ρ Γ (cond (ay vs.length) (yA vs) none)
 | .nz _,T,ρ,Γ => .ok (.loc Γ.length) ρ (Γ++[some (.list [])])
 | .sub a i _,T,ρ,Γ=>(a.eh U cl AO O T ρ Γ).bind fun x ρ Γ=>(i.eh U cl AO O T ρ Γ).bind fun y ρ Γ => .opt ρ Γ (Au U Γ x y)
 | .ni a lo hi _ _,T,ρ,Γ=>(a.eh U cl AO O T ρ Γ).bind fun x ρ Γ=>(lo.eh U cl AO O T ρ Γ).bind fun y ρ Γ=>(hi.eh U cl AO O T ρ Γ).bind fun z ρ Γ => .opt ρ Γ (Fs U cl x y z)
 | .call k f q es _,T,ρ,Γ=>(f.eh U cl AO O T ρ Γ).bind fun fv ρ Γ=>(es.pE U cl AO O T ρ Γ).bind fun vs ρ Γ => .aT fv.fu fun a=>cond (q&&(OI k T.fa.length&&I' a (T.fa.getD k 0))) (.opt ρ Γ (om AO O k vs)) .no
 | .gH b f es _,T,ρ,Γ=>(es.pE U cl AO O T ρ Γ).bind fun vs ρ Γ => .opt ρ Γ (cond b.calm (sD Γ b vs) none)
 | .jz a me es _ _,T,ρ,Γ=>(a.eh U cl AO O T ρ Γ).bind fun x ρ Γ=>cond (xn Γ me x) ((es.pE U cl AO O T ρ Γ).bind fun vs ρ Γ => .aT (z5 U cl Γ me x vs) fun q => .ok q.1 ρ q.2) .no
 |_,T,_,_ => .no
noncomputable def bf.pE(U:Tx)(cl:Bool)(AO:ey)(O:aL):bf->Tab->dg->ag->AR (List AV)
 | .nil,T,ρ,Γ => .ok [] ρ Γ
 | .cons e es,T,ρ,Γ=>(e.eh U cl AO O T ρ Γ).bind fun v ρ Γ=>(es.pE U cl AO O T ρ Γ).bind fun vs ρ Γ => .ok (v::vs) ρ Γ
noncomputable def Te.eh(U:Tx)(cl:Bool)(AO:ey)(O:aL):Te->Tab->dg->ag->AR Bool
 | .val e,T,ρ,Γ=>(e.eh U cl AO O T ρ Γ).bind fun v ρ Γ => .opt ρ Γ (wZ v)
 | .not t _,T,ρ,Γ=>(t.eh U cl AO O T ρ Γ).bind fun b ρ Γ => .ok (!b) ρ Γ
 | .and ts _,T,ρ,Γ=>ts.rM U cl AO O T ρ Γ
 | .or ts _,T,ρ,Γ=>ts.vz U cl AO O T ρ Γ
 |_,T,_,_ => .no
noncomputable def bY.rM(U:Tx)(cl:Bool)(AO:ey)(O:aL):bY->Tab->dg->ag->AR Bool
 | .nil,T,ρ,Γ => .ok true ρ Γ
 | .cons t ts,T,ρ,Γ=>(t.eh U cl AO O T ρ Γ).bind fun b ρ Γ=>cond b (ts.rM U cl AO O T ρ Γ) (.ok false ρ Γ)
noncomputable def bY.vz(U:Tx)(cl:Bool)(AO:ey)(O:aL):bY->Tab->dg->ag->AR Bool
 | .nil,T,ρ,Γ => .ok false ρ Γ
 | .cons t ts,T,ρ,Γ=>(t.eh U cl AO O T ρ Γ).bind fun b ρ Γ=>cond b (.ok true ρ Γ) (ts.vz U cl AO O T ρ Γ)
end
inductive fV where
 |next | brk
 |ret (v:AV)
noncomputable def fV.loop(ρ:dg)(Γ:ag)(k:AR fV):fV->AR fV
 | .next=>k
 | .brk => .ok .next ρ Γ
 | .ret v => .ok (.ret v) ρ Γ
noncomputable def fV.seq(ρ:dg)(Γ:ag)(k:AR fV):fV->AR fV
 | .next=>k
 | .brk => .ok .brk ρ Γ
 | .ret v => .ok (.ret v) ρ Γ
noncomputable def rd(t:dg->ag->AR Bool)(b:dg->ag->AR fV):Nat->dg->ag->AR fV
 |0,_,_ => .no
 |n+1,ρ,Γ=>(t ρ Γ).bind fun v ρ Γ=>cond v ((b ρ Γ).bind fun f ρ Γ=>f.loop ρ Γ (rd t b n ρ Γ)) (.ok .next ρ Γ)
noncomputable def zZ(v:AV):Bool:=fP (v.d?.map Ai)
noncomputable def GO(t:Ex)(v:AV)(ρ:dg):Option dg:=t.pick none (fun _=>none) (fun i _=>some (ρ.set i (some v))) (fun _=>none) (fun es _=>es.vn.bind fun ab=>ab.1.var?.bind fun i=>ab.2.var?.bind fun j=>v.A2.map fun w=>(ρ.set i.1 (some w.1)).set j.1 (some w.2)) fun _ _=>none
mutual
noncomputable def St.mT(U:Tx)(cl:Bool)(T:Tab)(AO:ey)(O:aL):St->dg->ag->AR fV
 | .expr e _,ρ,Γ=>(e.eh U cl AO O T ρ Γ).bind fun v ρ Γ=>cond (zZ v) (.ok .next ρ Γ) .no
 | .asg t e _,ρ,Γ=>(e.eh U cl AO O T ρ Γ).bind fun v ρ Γ => .aT (GO t v ρ) fun ρ => .ok .next ρ Γ
 | .aug i op e _ _,ρ,Γ => .aT ((ρ[i]?).join.bind AV.Jv) fun a=>(e.eh U cl AO O T ρ Γ).bind fun v ρ Γ => .aT (jw op a v) fun r => .ok .next (ρ.set i (some r)) Γ
 | .ifs t a b _,ρ,Γ=>(t.eh U cl AO O T ρ Γ).bind fun v ρ Γ=>cond v (a.mT U cl T AO O ρ Γ) (b.mT U cl T AO O ρ Γ)
 | .nZ t b _,ρ,Γ=>rd (fun ρ Γ=>t.eh U cl AO O T ρ Γ) (fun ρ Γ=>b.mT U cl T AO O ρ Γ) rounds ρ Γ
 | .ret e _,ρ,Γ=>(e.eh U cl AO O T ρ Γ).bind fun v ρ Γ => .ok (.ret v) ρ Γ
 | .nN _,ρ,Γ => .ok (.ret (.d .none)) ρ Γ
 | .brk _,ρ,Γ => .ok .brk ρ Γ
 |_,_,_ => .no
noncomputable def av.mT(U:Tx)(cl:Bool)(T:Tab)(AO:ey)(O:aL):av->dg->ag->AR fV
 | .nil,ρ,Γ => .ok .next ρ Γ
 | .cons s ss,ρ,Γ=>(s.mT U cl T AO O ρ Γ).bind fun f ρ Γ=>f.seq ρ Γ (ss.mT U cl T AO O ρ Γ)
end
noncomputable def fV.out:fV->Option AV
 | .ret v=>cond v.bare (some v) none
 | .next=>some (.d .none)
 | .brk=>none
noncomputable def AR.out:AR fV->Option AV
 | .ok f _ _=>f.out
 | .no=>none
noncomputable def jZ(U:Tx)(cl:Bool)(T:Tab)(fs:Nat->Option Fn):Nat->ey
 |0,_,_=>none
 |n+1,k,vs=>(fs k).bind fun f=>cond (I' vs.length f.np) (f.body.mT U cl {T with gn:=f.gl} (jZ U cl T fs n) (calls T fs n) (vs.map some++O1 (f.ns.length-f.np) none) []).out none
end Mine
end
section
namespace Mine
section
structure Vw(X U:Tx)(p:Nat)(cl:Bool):Prop where
 eq : ∃pre post,X=pre++(U++post)/\pre.length=p/\(cl=true->post=[])
 fits:ay X.length=true
mutual
def Av(X:Tx)(p:Nat):AV->V->Prop
 | .d x,v=>v = .d x
 | .pos j,v=>v = .d (.int (.ofNat (p+j)))
 | .fin,v=>v = .d (.int (.ofNat X.length))
 | .view,v=>v = .d (.str X)
 | .loc n,v=>v = .loc n
 | .tup l,v => ∃ds,v = .d (.tup ds)/\Fp X p l ds
def Fp(X:Tx)(p:Nat):List AV->List D->Prop
 | [],ds=>ds=[]
 |a::l,ds => ∃d r,ds=d::r/\Av X p a (.d d)/\Fp X p l r
end
def iM(X:Tx)(p:Nat):List AV->List V->Prop
 | [],vs=>vs=[]
 |a::l,vs => ∃v r,vs=v::r/\Av X p a v/\iM X p l r
structure Ra(X:Tx)(p:Nat)(OY:dg)(ρ:aq):Prop where
 len:OY.length=ρ.length
 get : ∀(i:Nat) a,OY[i]?=some (some a)->∃v,ρ[i]?=some (some v)/\Av X p a v
variable{X U:Tx}{p:Nat}{cl:Bool}{a b c z:AV}{u v w:V}{Γ Γ':ag}
theorem sN(pre r:Tx)(x:Nat):(pre++r).drop (pre.length+x)=r.drop x:=by
 rw[<-S4,VW]
theorem Vw.get(h:Vw X U p cl){j c:Nat}(e:U[j]?=some c):X[p+j]?=some c:=by
 obtain⟨pre,post,rfl,rfl,_⟩:=h.eq;rw[Ov (OH ..),P1,Pf (N3.mp e).1];exact e
theorem Vw.len(h:Vw X U p cl):p+U.length<=X.length:=by
 obtain⟨pre,post,rfl,rfl,_⟩:=h.eq;simp only[N1];simp +arith only
theorem Vw.full(h:Vw X U p cl)(e:cl=true):X.length=p+U.length:=by
 obtain⟨pre,post,rfl,rfl,hc⟩:=h.eq;rw[hc e,OE,N1]
theorem CF{pre r:Tx}{a b:Nat}:Mine.cut (pre++r) (min (pre.length+a) (pre.length+r.length)) (min (pre.length+b) (pre.length+r.length))=Mine.cut r (min a r.length) (min b r.length):=by
 unfold Mine.cut;rw[Uz,Uz,sN,Nat.add_sub_add_left]
theorem Vw.cut(h:Vw X U p cl){a b:Nat}(e:(cl||OB b U.length)=true):Mine.cut X (min (p+a) X.length) (min (p+b) X.length)=Mine.cut U (min a U.length) (min b U.length):=by
 obtain⟨pre,post,rfl,rfl,hc⟩:=h.eq;rw[N1,CF];cases hcl:cl with
 |true=>rw[hc hcl,OE]
 |false=>
  rw[hcl] at e;have hb:b<=U.length:=N9 e;have hb2:b<=(U++post).length:=N0 hb (by rw[N1];exact OH _ _)
  unfold Mine.cut;rw[P' hb,P' hb2];by_cases ha:a<=U.length
  ·rw[P' ha,P' (N0 ha (by rw[N1];exact OH _ _)),SD ha,List.take_append_of_le_length (by rw[Pd];exact RX hb a)]
  ·have hb3:b<=a:=N0 hb (Nat.le_of_not_le ha)
   rw[RN (Yh.mpr ⟨hb3,hb2⟩),RN (Yh.mpr ⟨hb3,hb⟩),VT,VT]
theorem Ra.set{OY:dg}{ρ:aq}(h:Ra X p OY ρ)(i:Nat)(r:Av X p a v):Ra X p (OY.set i (some a)) (ρ.set i (some v)):=by
 refine⟨by rw[PS,PS,h.len],fun j b e => ?_⟩
 by_cases q:i=j
 ·subst q
  have hl:i<OY.length:=by rw[<-PS (as:=OY)];exact(N3.mp e).1
  rw[Qy hl] at e;cases e;exact⟨v,Qy (h.len▸hl),r⟩
 ·rw[OP q] at e ⊢
  exact h.get j b e
theorem AV.cf{x}(e:a.d?=some x):a = .d x:=by
 cases a with
 |d y=>exact congrArg AV.d (j' e)
 |_=>exact aE e
theorem AV.gN{x}(e:a.pos?=some x):a = .pos x:=by
 cases a with
 |pos y=>exact congrArg AV.pos (j' e)
 |_=>exact aE e
theorem AV.qi(e:a.oQ=true):a = .view:=by
 cases a with
 |view=>rfl
 |_=>exact H' e
theorem Av.d{x}(e:a.d?=some x)(r:Av X p a u):u = .d x:=by rw[AV.cf e] at r;exact r
theorem Av.pos{x}(e:a.pos?=some x)(r:Av X p a u):u = .d (.int (.ofNat (p+x))):=by rw[AV.gN e] at r;exact r
theorem Av.view(e:a.oQ=true)(r:Av X p a u):u = .d (.str X):=by rw[AV.qi e] at r;exact r
theorem Av.nat{k}(e:a.nat?=some k)(r:Av X p a u):u = .d (.int (.ofNat k)):=by
 obtain⟨i,h1,h2⟩:=ai e;obtain⟨x,h3,h4⟩:=ai h1;rw[r.d h3,D.cP h4,gr h2]
theorem Av.chr{k}(e:a.Eb=some k)(r:Av X p a u):u = .d (.str [k]):=by
 obtain⟨i,h1,h2⟩:=ai e;obtain⟨x,h3,h4⟩:=ai h1;rw[r.d h3,D.cC h4,ea h2]
theorem Av.ref{k}(e:a.fu=some k)(r:Av X p a u):u = .d (.val (.ref k)):=by
 obtain⟨i,h1,h2⟩:=ai e;obtain⟨x,h3,h4⟩:=ai h1;rw[r.d h3,D.mF h4,Value.gS h2]
theorem Av.toV(e:a.toV=some v)(r:Av X p a u):u=v:=by
 cases a with
 |d x=>exact r.trans (j' e)
 |loc n=>exact r.trans (j' e)
 |_=>exact aE e
theorem iM.k8 : ∀{l:List AV} {vs us:List V},Mine.k8 l=some vs->iM X p l us->us=vs:=fun{l}=>by
 induction l with
 |nil=>intro vs us e r;exact r.trans (j' e)
 |cons a l ih=>
  intro vs us e r;obtain⟨v,r',rfl,h1,h2⟩:=r;obtain⟨v',e1,e⟩:=ai e;obtain⟨vs',e2,rfl⟩:=aJ e;rw[h1.toV e1,ih e2 h2]
theorem iM.kF : ∀{l:List AV} {ds:List D} {us:List V},Mine.kF l=some ds->iM X p l us->us=ds.map .d:=fun{l}=>by
 induction l with
 |nil=>intro ds us e r;rw[show us=[] from r,<-j' e];rfl
 |cons a l ih=>
  intro ds us e r;obtain⟨v,r',rfl,h1,h2⟩:=r;obtain⟨x,e1,e⟩:=ai e;obtain⟨xs,e2,rfl⟩:=aJ e;rw[h1.d e1,ih e2 h2];rfl
theorem uy{op:Pq}{k:Nat}(e:zj op b=some k):op = .Add/\b.nat?=some k:=let ⟨h1,h2⟩:=cB e;⟨kf h1,h2⟩
theorem ua{j k:Nat}:Av X p (.pos (j+k)) (.d (.int (.ofNat (p+j) + .ofNat k))):=congrArg (fun n=>V.d (.int (.ofNat n))) (WM ..)
theorem E1{op:Pq}(e:I3 op a b=some z)(ra:Av X p a u)(rb:Av X p b v): ∃w,(u.d?.bind fun x=>v.d?.bind fun y=>(gZ op x y).map V.d)=some w/\Av X p z w:=by
 cases a with
 |pos j=>
  obtain⟨k,h1,rfl⟩:=aJ e;obtain⟨rfl,h2⟩:=uy h1;rw[show u=_ from ra,rb.nat h2]
  exact⟨_,rfl,ua⟩
 |d x=>
  obtain⟨y,h1,e⟩:=ai e;obtain⟨r,h2,rfl⟩:=aJ e;rw[show u=_ from ra,rb.d h1]
  exact⟨.d r,congrArg (·.map V.d) h2,rfl⟩
 |_=>exact aE e
theorem B9{op:Pq}{x:D}(e:jw op a b=some z)(ra:Av X p a (.d x))(rb:Av X p b v): ∃w,v.d?.bind (pe op x)=some w/\Av X p z (.d w):=by
 cases a with
 |pos j=>
  obtain⟨k,h1,rfl⟩:=aJ e;obtain⟨rfl,h2⟩:=uy h1;injection ra with ra;subst ra
  rw[rb.nat h2];exact⟨_,rfl,ua⟩
 |d y=>
  obtain⟨y,h1,e⟩:=ai e;obtain⟨r,h2,rfl⟩:=aJ e;injection ra with ra;subst ra
  rw[rb.d h1];exact⟨r,h2,rfl⟩
 |_=>exact aE e
theorem uk(p a b:Nat):OB (p+a) (p+b)=OB a b:=by
 rw[Pz,O4,O4];exact Nat.add_le_add_iff_left
theorem By(p a b:Nat):I' (p+a) (p+b)=I' a b:=by
 rw[Pz,To,To];exact Nat.add_left_cancel_iff
theorem xR(W:Vw X U p cl){j:Nat}{z:Bool}(e:z3 U cl j=some z):OB X.length (p+j) = !z:=by
 have hl:=W.len;unfold z3 at e;cases q:OI j U.length with
 |true=>
  rw[q] at e;cases e;have:=cp q;exact Vc.mpr fun h=>by have:=N9 h;lia
 |false=>
  rw[q] at e;obtain⟨hc,rfl⟩:=bF e;have hf:=W.full hc;have : ¬j<U.length:=fun h=>by rw[show OI j U.length=true from O4.mpr h] at q;exact H' q
  exact O4.mpr (bX (cb hf) (Pe this))
theorem Cv(W:Vw X U p cl){op:Rp}{z:Bool}(e:F3 U cl Γ op a b=some z)(ra:Av X p a u)(rb:Av X p b v):iG Γ op u v=some z:=by
 cases a with
 |d x=>
  obtain⟨y,h1,e⟩:=ai e;rw[show u=_ from ra,rb.d h1];exact e
 |pos j=>
  rw[show u=_ from ra]
  cases b with
  |pos k=>
   rw[show v=_ from rb]
   cases op with
   |Lt=>rw[<-e];exact congrArg (fun b=>some (!b)) (uk ..)
   |GtE=>rw[<-e];exact congrArg some (uk ..)
   |Eq=>rw[<-e];exact congrArg some (By ..)
   |_=>exact aE e
  |fin=>
   rw[show v=_ from rb]
   cases op with
   |Lt=>exact(congrArg (fun b=>some (!b)) (xR W e)).trans (congrArg some (Bool.not_not z))
   |GtE=>obtain⟨y,h1,rfl⟩:=aJ e;exact congrArg some (xR W h1)
   |_=>exact aE e
  |d x=>
   obtain⟨k,h1,e⟩:=ai e;obtain⟨i,h2,h3⟩:=ai h1;rw[show v=_ from rb,D.cP h2,gr h3]
   cases op with
   |Lt=>obtain⟨h4,rfl⟩:=bF e;rw[N2 h4];rfl
   |_=>exact aE e
  |_=>exact aE e
 |_=>exact aE e
theorem w4{j n:Nat}(h:j<n)(hn:ay n=true):place (.ofNat j) n=some j:=by
 have hX:n<=vt:=N9 hn;show cond (OI j n&&ay j) _ _=_
 rw[show OI j n=true from O4.mpr h,show ay j=true from O4.mpr (bX hX h)];rfl
theorem yI(W:Vw X U p cl)(e:Au U Γ a b=some z)(ra:Av X p a u)(rb:Av X p b v): ∃w,cF Γ u v=some w/\Av X p z w:=by
 cases a with
 |view=>
  obtain⟨j,h1,e⟩:=ai e;obtain⟨c,h2,rfl⟩:=aJ e;have hl:=W.len;have hj:=(N3.mp h2).1;rw[show u=_ from ra,rb.pos h1]
  refine⟨.d (.str [c]),?_,rfl⟩
  show(((place (.ofNat (p+j)) X.length).bind fun k=>(X[k]?).map fun c=>D.str [c]).map V.d)=_
  rw[w4 (bX hj hl) W.fits];show(((X[p+j]?).map fun c=>D.str [c]).map V.d)=_
  rw[W.get h2];rfl
 |d x=>
  obtain⟨y,h1,e⟩:=ai e;obtain⟨r,h2,e⟩:=ai e;obtain⟨w,h3,rfl⟩:=aJ e;rw[show u=_ from ra,rb.d h1]
  exact⟨r,h2,V.cf h3⟩
 |_=>exact aE e
theorem BG(W:Vw X U p cl)(e:Fs U cl a b c=some z)(ra:Av X p a u)(rb:Av X p b v)(rc:Av X p c w): ∃y,((v.of D.int?).bind fun i=>(w.of D.int?).bind fun j=>dq u (some i) (some j))=some y/\Av X p z y:=by
 obtain⟨h0,e⟩:=cB e;obtain⟨i,h1,e⟩:=ai e;obtain⟨j,h2,e⟩:=ai e;obtain⟨q,rfl⟩:=bF e;rw[ra.view h0,rb.pos h1,rc.pos h2];refine⟨.d (.str (cut U (min i U.length) (min j U.length))),?_,rfl⟩
 show(cond (ay X.length) (some (D.str (slice X (some (.ofNat (p+i))) (some (.ofNat (p+j)))))) none).map V.d=_
 rw[W.fits];exact congrArg (fun x=>some (V.d (D.str x))) (W.cut q)
theorem xl(W:Vw X U p cl){b:Bi}{vs:List AV}{us:List V}(e:sD Γ b vs=some z)(r:iM X p vs us): ∃w,(builtin b Γ us).map V.d=some w/\Av X p z w:=by
 unfold sD at e;cases q:Fq b vs with
 |some y=>
  rw[q] at e;cases e;cases b with
  |len=>
   obtain⟨v,h1,q⟩:=ai q;obtain⟨h2,rfl⟩:=bF q;rw[ea h1,AV.qi h2] at r;obtain⟨v,r',rfl,rfl,rfl⟩:=r;refine⟨.d (.int X.length),?_,rfl⟩
   show(cond (ay X.length) (some (D.int X.length)) none).map V.d=_
   rw[W.fits];rfl
  |_=>exact aE q
 |none=>
  rw[q] at e;obtain⟨us',h1,e⟩:=ai e;obtain⟨w,h2,rfl⟩:=aJ e;rw[r.k8 h1,h2];exact⟨.d w,rfl,rfl⟩
theorem td(x:Tx): ∀(l:Tx) (i j:Nat),dM x l (i+j)=(dM x l j).map (i + ·):=by
 intro l
 induction l with
 |nil=>intro i j;rw[pD,pD];cases TU x<;>rfl
 |cons a l ih=>intro i j;rw[pK,pK];cases eW x (a::l)<;>first | rfl | exact ih i (j+1)
theorem wq(c:Nat)(r:Tx): ∀(l:Tx) (i k:Nat),dM [c] l i=some k->dM [c] (l++r) i=some k:=by
 intro l
 induction l with
 |nil=>intro i k h;exact aE h
 |cons a l ih=>
  intro i k h;change cond (cond (I' c a) true false) _ _=_ at h;show cond (cond (I' c a) true false) _ _=_
  cases q:I' c a with
  |true=>rw[q] at h;exact h
  |false=>rw[q] at h;exact ih _ _ h
theorem Bf(W:Vw X U p cl){c j:Nat}(e:E8 cl (dM [c] (U.drop j) j)=some z): ∃w,V.d (.int (AB (dM [c] (X.drop (p+j)) (p+j))))=w/\Av X p z w:=by
 obtain⟨pre,post,rfl,rfl,hc⟩:=W.eq;rw[sN,td];refine⟨_,rfl,?_⟩
 cases q:dM [c] (U.drop j) j with
 |some i=>
  rw[q] at e;cases e;have hj:j<=U.length:=Sw fun h=>by rw[Pr (ba (Nat.lt_of_not_le h))] at q;exact aE q
  rw[SD hj,wq c post _ _ _ q];rfl
 |none=>
  rw[q] at e;obtain⟨h,rfl⟩:=bF e;rw[hc h,OE,q];rfl
theorem yZ(W:Vw X U p cl){me:Me}{x:AV}{vs:List AV}{us:List V}{q:AV×ag}(e:z5 U cl Γ me x vs=some q)(rx:Av X p x u)(r:iM X p vs us): ∃w,method Γ me u us=some (w,q.2)/\Av X p q.1 w:=by
 have other:(x.toV.bind fun v=>(k8 vs).bind fun us=>cond (gF Γ me v) ((method Γ me v us).bind fun q=>q.1.d?.map fun z=>(AV.d z,q.2)) none)=some q->∃w,method Γ me u us=some (w,q.2)/\Av X p q.1 w:=fun e=>by
  obtain⟨v',h1,e⟩:=ai e;obtain⟨us',h2,e⟩:=ai e;obtain⟨_,e⟩:=cB e;obtain⟨y,h3,e⟩:=ai e;obtain⟨z,h4,rfl⟩:=aJ e;rw[rx.toV h1,r.k8 h2,h3];exact⟨y.1,rfl,V.cf h4⟩
 cases x with
 |view=>
  cases me with
  |find=>
   obtain⟨w,h1,e⟩:=ai e;obtain⟨c,h2,e⟩:=ai e;obtain⟨j,h3,e⟩:=ai e;obtain⟨z,h4,rfl⟩:=aJ e;rw[gB h1] at r;obtain⟨v1,r1,rfl,a1,v2,r2,rfl,a2,rfl⟩:=r;rw[a1.chr h2,a2.pos h3,show u=_ from rx]
   obtain⟨w,h5,h6⟩:=Bf W h4;exact⟨w,by rw[<-h5];rfl,h6⟩
  |_=>exact aE e
 |_=>exact other e
theorem xB{me:Me}{x:AV}(e:xn Γ me x=true)(rx:Av X p x u):gF Γ me u=true:=by
 have other:fP (x.toV.map (gF Γ me))=true->gF Γ me u=true:=fun e=>by
  obtain⟨v,h1,h2⟩:=aJ (cK e);rw[rx.toV h1];exact h2
 cases x with
 |view=>
  rw[show u=_ from rx]
  cases me with
  |find=>rfl
  |_=>exact H' e
 |_=>exact other e
theorem wJ{q:Bool}(e:wZ a=some q)(r:Av X p a u):d9 Γ u=some q:=by
 obtain⟨x,h1,h2⟩:=ai e;rw[r.d h1];exact h2
end
section
variable{X U:Tx}{p:Nat}{cl:Bool}{AO:ey}{O:aL}
theorem Av.Jj{a:AV}{u:V}(hb:a.bare=true)(r:Av X p a u): ∃x,u = .d x:=by
 cases a with
 |loc=>exact H' hb
 |tup l=>obtain⟨ds,h,_⟩:=r;exact⟨_,h⟩
 |_=>exact⟨_,r⟩
theorem iM.ds : ∀{vs:List AV} {us:List V},vs.all AV.bare=true->iM X p vs us->∃ds,us=ds.map .d/\Fp X p vs ds:=fun{vs}=>by
 induction vs with
 |nil=>intro us _ r;exact⟨[],r,rfl⟩
 |cons a l ih=>
  intro us h r;obtain⟨v,r',rfl,h1,h2⟩:=r;obtain⟨x,rfl⟩:=h1.Jj (a1 h);obtain⟨ds,rfl,h3⟩:=ih (a2 h) h2;exact⟨x::ds,rfl,x,ds,rfl,h1,h3⟩
theorem s9 : ∀ds:List D,iB (ds.map .d)=true
 | []=>rfl
 |_::r=>s9 r
theorem m6 : ∀ds:List D,iW (ds.map .d)=some ds
 | []=>rfl
 |x::r=>congrArg (·.map (x :: ·)) (m6 r)
def vU(X:Tx)(p:Nat)(AO:ey)(O:aL):Prop := ∀k vs z us,AO k vs=some z->iM X p vs us->∃w Γ',O true k us [] = .ok (.d w) Γ'/\Av X p z (.d w)
theorem Bv{r:RG}{x}(h:r.EY=some x): ∃Γ,r = .ok (.d x) Γ:=by
 cases r with
 |ok v G=>exact⟨G,by rw[V.cf h]⟩
 |_=>exact aE h
theorem uz{Γ Γ':ag}{k:Nat}{ds:List D}{w:D}(h:O true k (ds.map .d) [] = .ok (.d w) Γ'):d4 O .free k true (ds.map .d) Γ = .ok (.d w) Γ:=by
 show cond (iB (ds.map .d)) (eV Γ (O true k (ds.map .d) [])) .no=_
 rw[s9,h];rfl
theorem yU(H:vU X p AO O){Γ:ag}{k:Nat}{vs:List AV}{z:AV}{us:List V}(e:om AO O k vs=some z)(r:iM X p vs us): ∃w,d4 O .free k true us Γ = .ok (.d w) Γ/\Av X p z (.d w):=by
 unfold om at e;cases q:kF vs with
 |some ds=>
  rw[q] at e;obtain⟨x,h1,rfl⟩:=aJ e;obtain⟨G,h2⟩:=Bv h1;rw[r.kF q];exact⟨x,uz h2,rfl⟩
 |none=>
  rw[q] at e;obtain⟨hb,e⟩:=cB e;obtain⟨w,Γ',h1,h2⟩:=H k vs z us e r;obtain⟨ds,rfl,_⟩:=r.ds hb;exact⟨w,uz h1,h2⟩
theorem uS : ∀{vs:List AV} {us:List V},iM X p vs us->us.length=vs.length:=fun{vs}=>by
 induction vs with
 |nil=>intro us r;rw[show us=[] from r];rfl
 |cons a l ih=>intro us r;obtain⟨v,r',rfl,h1,h2⟩:=r;exact congrArg (· + 1) (ih h2)
theorem Cu{vs:List AV}{us:List V}{z:AV}(e:cond (ay vs.length) (yA vs) none=some z)(r:iM X p vs us): ∃w,(cond (ay us.length) (iW us) none).map (fun l=>V.d (.tup l))=some w/\Av X p z w:=by
 obtain⟨hf,e⟩:=cB e;rw[uS r,hf];unfold yA at e;cases q:kF vs with
 |some ds=>
  rw[q] at e;cases e;rw[r.kF q];exact⟨_,congrArg (fun o=>o.map fun l=>V.d (.tup l)) (m6 ds),rfl⟩
 |none=>
  rw[q] at e;obtain⟨hb,rfl⟩:=bF e;obtain⟨ds,rfl,h⟩:=r.ds hb;exact⟨_,congrArg (fun o=>o.map fun l=>V.d (.tup l)) (m6 ds),ds,rfl,h⟩
def RA(X:Tx)(p:Nat){α β:Type}(R:α->β->Prop)(x:AR α)(y:Res β):Prop := ∀a OY Γ,x = .ok a OY Γ->∃b ρ,y = .ok b ρ Γ/\R a b/\Ra X p OY ρ
section
variable{α β γ δ:Type}{R:α->β->Prop}{R':γ->δ->Prop}{OY:dg}{ρ:aq}{Γ:ag}
theorem RA.ok{a:α}{b:β}(r:R a b)(h:Ra X p OY ρ):RA X p R (.ok a OY Γ) (.ok b ρ Γ):=fun _ _ _ e=>by cases e;exact⟨b,ρ,rfl,r,h⟩
theorem RA.no{y:Res β}:RA X p R .no y:=fun _ _ _ e=>nomatch e
theorem RA.bind{x:AR α}{y:Res β}{f:α->dg->ag->AR γ}{g:β->aq->ag->Res δ}(h:RA X p R x y)(k : ∀a b OY ρ Γ,R a b->Ra X p OY ρ->RA X p R' (f a OY Γ) (g b ρ Γ)):RA X p R' (x.bind f) (y.bind g):=fun c Vh Γ' e=>by
 cases x with
 |no=>exact nomatch e
 |ok a OY Γ=>
  obtain⟨b,ρ,rfl,r,hr⟩:=h a OY Γ rfl;exact k a b OY ρ Γ r hr c Vh Γ' e
theorem RA.opt{o:Option α}{o':Option β}(h:Ra X p OY ρ)(k : ∀a,o=some a->∃b,o'=some b/\R a b):RA X p R (.opt OY Γ o) (.opt ρ Γ o'):=by
 cases o with
 |none=>exact .no
 |some a=>obtain⟨b,rfl,r⟩:=k a rfl;exact .ok r h
theorem RA.aT{o:Option γ}{f:γ->AR α}{y:Res β}(k : ∀a,o=some a->RA X p R (f a) y):RA X p R (AR.aT o f) y:=by
 cases o with
 |none=>exact .no
 |some a=>exact k a rfl
theorem RA.con{b:Bool}{x:AR α}{y:Res β}(k:b=true->RA X p R x y):RA X p R (cond b x .no) y:=by
 cases b with
 |false=>exact .no
 |true=>exact k rfl
theorem RA.ite{b:Bool}{x x':AR α}{y y':Res β}(h:RA X p R x y)(h':RA X p R x' y'):RA X p R (cond b x x') (cond b y y'):=by cases b<;>assumption
theorem RA.to{x:AR α}{y y':Res β}(e:y'=y)(h:RA X p R x y):RA X p R x y':=e▸h
end
end
section
variable{X U:Tx}{p:Nat}{cl:Bool}{AO:ey}{O:aL}
def zA(X U:Tx)(p:Nat)(cl:Bool)(AO:ey)(O:aL)(e:Ex):Prop := ∀T OY Γ ρ,Ra X p OY ρ->RA X p (Av X p) (e.eh U cl AO O T OY Γ) (e.ev O .free T ρ Γ)
def A9(X U:Tx)(p:Nat)(cl:Bool)(AO:ey)(O:aL)(es:bf):Prop := ∀T OY Γ ρ,Ra X p OY ρ->RA X p (iM X p) (es.pE U cl AO O T OY Γ) (es.ev O .free T ρ Γ)
def zp(X U:Tx)(p:Nat)(cl:Bool)(AO:ey)(O:aL)(t:Te):Prop := ∀T OY Γ ρ,Ra X p OY ρ->RA X p Eq (t.eh U cl AO O T OY Γ) (t.ev O .free T ρ Γ)
def z0(X U:Tx)(p:Nat)(cl:Bool)(AO:ey)(O:aL)(ts:bY):Prop := ∀T OY Γ ρ,Ra X p OY ρ->RA X p Eq (ts.rM U cl AO O T OY Γ) (ts.bL O .free T ρ Γ)/\RA X p Eq (ts.vz U cl AO O T OY Γ) (ts.gD O .free T ρ Γ)
theorem Bz{x z:AV}{u:V}(e:(x.d?.bind D.int?).map (fun i=>AV.d (.int (-i)))=some z)(r:Av X p x u): ∃w,(u.of D.int?).map (fun i=>V.d (.int (-i)))=some w/\Av X p z w:=by
 obtain⟨i,h1,rfl⟩:=aJ e;obtain⟨d,h2,h3⟩:=ai h1;rw[r.d h2,D.cP h3];exact⟨_,rfl,rfl⟩
theorem BD{k:Nat}{q:Bool}{fv:AV}{u:V}{vs:List AV}{us:List V}{T:Tab}{OY:dg}{ρ:aq}{Γ:ag}(H:vU X p AO O)(R:Ra X p OY ρ)(r1:Av X p fv u)(r2:iM X p vs us):
  RA X p (Av X p) (AR.aT fv.fu fun a=>cond (q&&(OI k T.fa.length&&I' a (T.fa.getD k 0))) (.opt OY Γ (om AO O k vs)) .no) (Res.aT u.fu fun a=>cond (OI k T.fa.length&&I' a (T.fa.getD k 0)) ((d4 O .free k q us Γ).res ρ) .no):=
 .aT fun a h => .con fun hq=>by
  rw[r1.ref h];refine .to (congrArg (cond · _ _) (a2 hq)) ?_
  cases a1 hq
  cases hc:om AO O k vs with
  |none=>exact .no
  |some z=>
   obtain⟨w,o1,o2⟩:=yU H (Γ:=Γ) hc r2;rw[o1];exact .ok o2 R
theorem j3(W:Vw X U p cl)(H:vU X p AO O):(∀e,zA X U p cl AO O e)/\∀t,zp X U p cl AO O t:=by
 refine⟨@Ex.rec (zA X U p cl AO O) (A9 X U p cl AO O) (zp X U p cl AO O) (z0 X U p cl AO O) ?a0 ?a1 ?a2 ?a3 ?a4 ?a5 ?a6 ?a7 ?a8 ?a9 ?a10 ?a11 ?a12 ?cq ?a14 ?a15 ?a16 ?a17 ?a18 ?a19 ?a20 ?a21 ?a22 ?a23 ?a24 ?a25 ?a26 ?a27 ?a28 ?a29 ?a30 ?a31 ?a32 ?a33 ?a34 ?a35 ?a36 ?a37 ?a38,
  @Te.rec (zA X U p cl AO O) (A9 X U p cl AO O) (zp X U p cl AO O) (z0 X U p cl AO O) ?a0 ?a1 ?a2 ?a3 ?a4 ?a5 ?a6 ?a7 ?a8 ?a9 ?a10 ?a11 ?a12 ?cq ?a14 ?a15 ?a16 ?a17 ?a18 ?a19 ?a20 ?a21 ?a22 ?a23 ?a24 ?a25 ?a26 ?a27 ?a28 ?a29 ?a30 ?a31 ?a32 ?a33 ?a34 ?a35 ?a36 ?a37 ?a38⟩
 exact fun p T OY Γ ρ R => .ok rfl R
 exact fun b p T OY Γ ρ R => .ok rfl R
 exact fun b p T OY Γ ρ R => .ok rfl R
 exact fun b p T OY Γ ρ R => .ok rfl R
 exact fun i p T OY Γ ρ R => .opt R fun a h=>let ⟨v,h1,h2⟩:=R.get i a (jk h);⟨v,congrArg Option.join h1,h2⟩
 exact fun i p T OY Γ ρ R => .no
 exact fun g p T OY Γ ρ R => .opt R fun a h=>let ⟨q,h1,h2⟩:=aJ h;⟨.d q.2,congrArg (fun o=>o.map fun(p:Str×D)=>V.d p.2) h1,h2▸rfl⟩
 exact fun op a b p ia ib T OY Γ ρ R=>(ia T _ _ _ R).bind fun x u OY ρ Γ a1 R=>(ib T _ _ _ R).bind fun y w OY ρ Γ a2 R => .opt R fun z h=>E1 h a1 a2
 exact fun op a b p ia ib T OY Γ ρ R=>(ia T _ _ _ R).bind fun x u OY ρ Γ a1 R=>(ib T _ _ _ R).bind fun y w OY ρ Γ a2 R => .opt R fun z h=>let ⟨q,h1,h2⟩:=aJ h;⟨.d (.bool q),congrArg (fun o=>o.map fun q=>V.d (.bool q)) (Cv W h1 a1 a2),h2▸rfl⟩
 exact fun es p _ T OY Γ ρ R => .no
 exact fun es p _ T OY Γ ρ R => .no
 exact fun a p ia T OY Γ ρ R=>(ia T _ _ _ R).bind fun x u OY ρ Γ a1 R => .opt R fun z h=>Bz h a1
 exact fun t a b p _ _ _ T OY Γ ρ R => .no
 exact fun es p ih T OY Γ ρ R=>(ih T _ _ _ R).bind fun x u OY ρ Γ a1 R => .opt R fun z h=>Cu h a1
 exact fun es p _ T OY Γ ρ R => .no
 exact fun p T OY Γ ρ R => .ok rfl R
 exact fun i p T OY Γ ρ R => .no
 exact fun x px e p _ T OY Γ ρ R => .no
 exact fun a i p ia ib T OY Γ ρ R=>(ia T _ _ _ R).bind fun x u OY ρ Γ a1 R=>(ib T _ _ _ R).bind fun y w OY ρ Γ a2 R => .opt R fun z h=>yI W h a1 a2
 exact fun a i _ p _ _ T OY Γ ρ R => .no
 exact fun a i _ p _ _ T OY Γ ρ R => .no
 exact fun a i j _ p ia ib ic T OY Γ ρ R=>(ia T _ _ _ R).bind fun x u OY ρ Γ a1 R=>(ib T _ _ _ R).bind fun y w OY ρ Γ a2 R=>(ic T _ _ _ R).bind fun y w OY ρ Γ a3 R => .opt R fun z h=>BG W h a1 a2 a3
 exact fun a q p _ T OY Γ ρ R => .no
 exact fun k f q es p ia ib T OY Γ ρ R=>(ia T _ _ _ R).bind fun x u OY ρ Γ a1 R=>(ib T _ _ _ R).bind fun y w OY ρ Γ a2 R=>BD H R a1 a2
 exact fun b f es p _ ib T OY Γ ρ R=>(ib T _ _ _ R).bind fun y w OY ρ Γ a2 R => .opt R fun z h=>by obtain⟨h1,h⟩:=cB h;rw[h1];exact xl W h a2
 exact fun C f es p _ _ T OY Γ ρ R => .no
 exact fun a me es pa p ia ib T OY Γ ρ R=>(ia T _ _ _ R).bind fun x u OY ρ Γ a1 R => .con fun hr => .to (congrArg (cond · _ _) (xB hr a1)) ((ib T _ _ _ R).bind fun y w OY ρ Γ a2 R => .aT fun q h=>let ⟨w,h1,h2⟩:=yZ W h a1 a2;.to (congrArg (Res.aT · _) h1) (.ok h2 R))
 exact fun a q es pa p _ _ T OY Γ ρ R => .no
 exact fun a C es pa p _ _ T OY Γ ρ R => .no
 exact fun elt tgt it ifs locs aA gk sc p _ _ _ _ T OY Γ ρ R => .no
 exact fun T OY Γ ρ R => .ok rfl R
 exact fun e es ia ib T OY Γ ρ R=>(ia T _ _ _ R).bind fun x u OY ρ Γ a1 R=>(ib T _ _ _ R).bind fun y w OY ρ Γ a2 R => .ok ⟨u,w,rfl,a1,a2⟩ R
 exact fun e ia T OY Γ ρ R=>(ia T _ _ _ R).bind fun x u OY ρ Γ a1 R => .opt R fun z h=>⟨z,wJ h a1,rfl⟩
 exact fun t p it T OY Γ ρ R=>(it T _ _ _ R).bind fun x u OY ρ Γ a1 R => .ok (congrArg (!·) a1) R
 exact fun ts p ih T OY Γ ρ R=>(ih T _ _ _ R).1
 exact fun ts p ih T OY Γ ρ R=>(ih T _ _ _ R).2
 exact fun a o1 b o2 d p _ _ _ T OY Γ ρ R => .no
 exact fun T OY Γ ρ R=>⟨.ok rfl R,.ok rfl R⟩
 exact fun t ts it ih T OY Γ ρ R=>⟨(it T _ _ _ R).bind fun x u OY ρ Γ a1 R=>by subst a1;exact .ite (ih T _ _ _ R).1 (.ok rfl R),(it T _ _ _ R).bind fun x u OY ρ Γ a1 R=>by subst a1;exact .ite (.ok rfl R) (ih T _ _ _ R).2⟩
end
section
variable{X U:Tx}{p:Nat}{cl:Bool}{AO:ey}{O:aL}{T:Tab}{OY:dg}{ρ:aq}{Γ:ag}
def Fa(X:Tx)(p:Nat):fV->Fl->Prop
 | .next,f=>f = .next
 | .brk,f=>f = .brk
 | .ret v,f => ∃u,f = .ret u/\Av X p v u
theorem Cf{v:AV}{u:V}{w:AV×AV}(h:v.A2=some w)(r:Av X p v u): ∃a b,u = .d (.tup [a,b])/\Av X p w.1 (.d a)/\Av X p w.2 (.d b):=by
 cases v with
 |tup l=>
  rw[gB h] at r;obtain⟨ds,rfl,a,r1,rfl,h1,b,r2,rfl,h2,rfl⟩:=r;exact⟨a,b,rfl,h1,h2⟩
 |d x=>
  obtain⟨l,h1,h⟩:=ai h;obtain⟨q,h2,rfl⟩:=aJ h;refine⟨q.1,q.2,?_,rfl,rfl⟩
  rw[show u=_ from r,D.gR h1,gB h2]
 |_=>exact aE h
theorem Cw{t:Ex}{v:AV}{u:V}{Vh:dg}(h:GO t v OY=some Vh)(r:Av X p v u)(R:Ra X p OY ρ): ∃O3,t.bC O .free T u ρ Γ = .ok () O3 Γ/\Ra X p Vh O3:=by
 cases t with
 |var i q=>injection h with h;subst h;exact⟨_,rfl,R.set _ r⟩
 |tup es q=>
  obtain⟨ab,h1,h⟩:=ai h;obtain⟨i,h2,h⟩:=ai h;obtain⟨j,h3,h⟩:=ai h;obtain⟨w,h4,rfl⟩:=aJ h;obtain⟨a,b,rfl,g1,g2⟩:=Cf h4 r;rw[o9 h1,jW h2,jW h3];exact⟨_,rfl,(R.set _ g1).set _ g2⟩
 |_=>exact aE h
theorem zt{x:AV}{u:V}(h:zZ x=true)(r:Av X p x u):oZ u=true:=by
 obtain⟨d,h1,h2⟩:=aJ (cK h);rw[r.d h1];exact h2
theorem CB{i:Nat}{a:AV}(h:((OY[i]?).join.bind AV.Jv)=some a)(R:Ra X p OY ρ): ∃x,((ρ[i]?).join.bind V.d?)=some x/\Av X p a (.d x):=by
 obtain⟨a',h1,h2⟩:=ai h;obtain⟨v,g1,g2⟩:=R.get i a' (jk h1);rw[g1];cases a' with
 |d x=>injection h2 with h2;subst h2;cases (show v=_ from g2);exact⟨_,rfl,rfl⟩
 |pos j=>injection h2 with h2;subst h2;cases (show v=_ from g2);exact⟨_,rfl,rfl⟩
 |_=>exact aE h2
theorem RA.seq{f:fV}{g:Fl}{k:AR fV}{k':Res Fl}(r:Fa X p f g)(R:Ra X p OY ρ)(h:RA X p (Fa X p) k k'):RA X p (Fa X p) (f.seq OY Γ k) (g.seq ρ Γ k'):=by
 cases f with
 |next=>subst r;exact h
 |brk=>subst r;exact .ok rfl R
 |ret v=>obtain⟨u,rfl,r⟩:=r;exact .ok ⟨u,rfl,r⟩ R
theorem RA.loop{f:fV}{g:Fl}{k:AR fV}{k':Res Fl}(r:Fa X p f g)(R:Ra X p OY ρ)(h:RA X p (Fa X p) k k'):RA X p (Fa X p) (f.loop OY Γ k) (g.loop ρ Γ k'):=by
 cases f with
 |next=>subst r;exact h
 |brk=>subst r;exact .ok rfl R
 |ret v=>obtain⟨u,rfl,r⟩:=r;exact .ok ⟨u,rfl,r⟩ R
theorem wY{tA:dg->ag->AR Bool}{bA:dg->ag->AR fV}{t:aq->ag->Res Bool}{b:aq->ag->Res Fl}(ht : ∀OY Γ ρ,Ra X p OY ρ->RA X p Eq (tA OY Γ) (t ρ Γ))(hb : ∀OY Γ ρ,Ra X p OY ρ->RA X p (Fa X p) (bA OY Γ) (b ρ Γ))(n:Nat):
  ∀OY Γ ρ,Ra X p OY ρ->RA X p (Fa X p) (rd tA bA n OY Γ) (fO t b n ρ Γ):=by
 induction n with
 |zero=>intro OY Γ ρ R;exact .no
 |succ n ih=>
  intro OY Γ ρ R;exact(ht _ _ _ R).bind fun x u OY ρ Γ a1 R=>by
   subst a1;exact .ite ((hb _ _ _ R).bind fun f g OY ρ Γ a2 R => .loop a2 R (ih _ _ _ R)) (.ok rfl R)
def Kd(X U:Tx)(p:Nat)(cl:Bool)(T:Tab)(AO:ey)(O:aL)(s:St):Prop := ∀OY Γ ρ,Ra X p OY ρ->RA X p (Fa X p) (s.mT U cl T AO O OY Γ) (s.ex T O .free ρ Γ)
def zY(X U:Tx)(p:Nat)(cl:Bool)(T:Tab)(AO:ey)(O:aL)(s:av):Prop := ∀OY Γ ρ,Ra X p OY ρ->RA X p (Fa X p) (s.mT U cl T AO O OY Γ) (s.ex T O .free ρ Γ)
theorem MX(W:Vw X U p cl)(H:vU X p AO O)(s:av):zY X U p cl T AO O s := @av.rec (Kd X U p cl T AO O) (zY X U p cl T AO O)
 (fun e q OY Γ ρ R=>((j3 W H).1 e T _ _ _ R).bind fun x u OY ρ Γ a1 R => .con fun hf => .to (congrArg (cond · _ _) (zt hf a1)) (.ok rfl R))
 (fun t e q OY Γ ρ R=>((j3 W H).1 e T _ _ _ R).bind fun x u OY ρ Γ a1 R => .aT fun Vh h=>let ⟨_,h1,h2⟩:=Cw h a1 R;.to (congrArg (Res.bind · _) h1) (.ok rfl h2))
 (fun i op e pn q OY Γ ρ R => .aT fun a ha=>by
  obtain⟨x,g1,g2⟩:=CB ha R;show RA X p (Fa X p) _ (Res.aT ((ρ[i]?).join.bind V.d?) _)
  rw[g1];exact((j3 W H).1 e T _ _ _ R).bind fun x u OY ρ Γ a1 R => .aT fun z h=>by
   obtain⟨w,h1,h2⟩:=B9 h g2 a1;rw[h1];exact .ok rfl (R.set i h2))
 (fun a i op e pa q OY Γ ρ R => .no)
 (fun t a b q ia ib OY Γ ρ R=>((j3 W H).2 t T _ _ _ R).bind fun x u OY ρ Γ a1 R=>by subst a1;exact .ite (ia _ _ _ R) (ib _ _ _ R))
 (fun t b q ib OY Γ ρ R=>wY (fun OY Γ ρ R=>(j3 W H).2 t T OY Γ ρ R) (fun OY Γ ρ R=>ib OY Γ ρ R) rounds OY Γ ρ R)
 (fun t it b q _ OY Γ ρ R => .no)
 (fun e q OY Γ ρ R=>((j3 W H).1 e T _ _ _ R).bind fun x u OY ρ Γ a1 R => .ok ⟨u,rfl,a1⟩ R)
 (fun q OY Γ ρ R => .ok ⟨_,rfl,rfl⟩ R) (fun e q OY Γ ρ R => .no) (fun b C i h ph q _ _ OY Γ ρ R => .no) (fun b f q _ _ OY Γ ρ R => .no) (fun q OY Γ ρ R => .ok rfl R)
 (fun OY Γ ρ R => .ok rfl R) (fun s ss is iss OY Γ ρ R=>(is _ _ _ R).bind fun f g OY ρ Γ a1 R => .seq a1 R (iss _ _ _ R)) s
theorem Bt{a:AV}{v:V}(h:Av X p a v)(R:Ra X p OY ρ):Ra X p (some a::OY) (some v::ρ):=⟨congrArg (· + 1) R.len,fun i b e=>by
 cases i with
 |zero=>cases e;exact⟨v,rfl,h⟩
 |succ i=>exact R.get i b e⟩
theorem zu(n:Nat): ∀{vs:List AV} {us:List V},iM X p vs us->Ra X p (vs.map some++O1 n none) (us.map some++O1 n none):=fun{vs}=>by
 induction vs with
 |nil=>
  intro us r;rw[show us=[] from r]
  exact⟨by simp,fun i a e=>by have:=TH (Og e);exact aE this.symm⟩
 |cons a l ih=>intro us r;obtain⟨v,r',rfl,h1,h2⟩:=r;exact Bt h1 (ih h2)
theorem lR(W:Vw X U p cl)(T:Tab)(fs:Nat->Option Fn)(n:Nat):vU X p (jZ U cl T fs n) (calls T fs n):=by
 induction n with
 |zero=>intro k vs z us h r;exact aE h
 |succ n ih=>
  intro k vs z us h r;obtain⟨f,hf,h⟩:=ai h;obtain⟨hl,h⟩:=cB h;have hs:f.start us=some (us.map some++O1 (f.ns.length-f.np) none):=by
   show cond (OB us.length f.np&&OB (f.np-us.length) f.df.length) (some (us.map some++((f.df.drop (f.df.length-(f.np-us.length))).map fun d=>some (.d d))++O1 (f.ns.length-f.np) none)) none=_
   rw[uS r,N2 hl,P6,show(OB f.np f.np&&OB 0 f.df.length)=true by simp]
   simp
  have key:=MX (T:={T with gn:=f.gl}) W ih f.body _ [] _ (zu (f.ns.length-f.np) r)
  have go : ∀{x:RG},(f.body.ex {T with gn:=f.gl} (calls T fs n) .free (us.map some++O1 (f.ns.length-f.np) none) []).out=x->calls T fs (n+1) true k us []=x:=fun e=>by
   show RG.aT (fs k) _=_
   rw[hf];show RG.aT (f.start us) _=_
   rw[hs];exact e
  generalize f.body.mT U cl {T with gn:=f.gl} (jZ U cl T fs n) (calls T fs n) (vs.map some++O1 (f.ns.length-f.np) none) []=ra at h key
  cases ra with
  |no=>exact aE h
  |ok a OY Γ=>
   obtain⟨b,ρ,e,hr,_⟩:=key a OY Γ rfl;cases a with
   |brk=>exact aE h
   |next=>
    injection h with h;subst h;subst hr
    exact⟨.none,Γ,go (by rw[e];rfl),rfl⟩
   |ret v=>
    obtain⟨hb,rfl⟩:=bF h;obtain⟨u,rfl,a1⟩:=hr;obtain⟨x,rfl⟩:=a1.Jj hb;exact⟨x,Γ,go (by rw[e];rfl),a1⟩
end
end Mine
end
section
namespace Mine.Pl
section rules
variable{T:Tab}{O:aL}{m:Md}{ρ ρ1 ρ2 UH:aq}{Γ Γ1 Qp S8:ag}{s:St}{ss a b:av}{t:Te}{e e1:Ex}{v w:V}{f:Fl}{p p1 p2 p3:Nat}{r:Res Fl}
theorem br{α β:Type}{r:Res α}{a:α}{k:α->aq->ag->Res β}{z:Res β}(h:r = .ok a ρ Γ)(h2:k a ρ Γ=z):r.bind k=z:=by rw[h];exact h2
theorem eG{α β:Type}{o:Option α}{a:α}{k:α->Res β}{z:Res β}(h:o=some a)(h2:k a=z):Res.aT o k=z:=by rw[h];exact h2
theorem jf{α:Type}{b:Bool}{x y z:α}(h:b=true)(h2:x=z):cond b x y=z:=by rw[h];exact h2
theorem cnf{α:Type}{b:Bool}{x y z:α}(h:b=false)(h2:y=z):cond b x y=z:=by rw[h];exact h2
theorem opt{α:Type}{o:Option α}{a:α}(h:o=some a):Res.opt ρ Γ o = .ok a ρ Γ:=by rw[h];rfl
theorem mR{α β:Type}{r:Res α}{n:Nat}{k:α->aq->ag->Res β}(h:r = .ex n ρ Γ):r.bind k = .ex n ρ Γ:=by rw[h];rfl
theorem bot{r:Res Fl}{f:Fl}{k:Fl->aq->ag->Res Fl}{kx:Nat->aq->ag->Res Fl}{z:Res Fl}(h:r = .ok f ρ Γ)(h2:k f ρ Γ=z):r.both k kx=z:=by rw[h];exact h2
theorem zr{r:Res Fl}{n:Nat}{k:Fl->aq->ag->Res Fl}{kx:Nat->aq->ag->Res Fl}{z:Res Fl}(h:r = .ex n ρ Γ)(h2:kx n ρ Γ=z):r.both k kx=z:=by rw[h];exact h2
theorem rO{n:Nat}{m:Mu}{d:D}(h:bq Γ n=some m)(h2:D0 m=some d):Mine.jL Γ (.loc n)=some (d,Γ.set n none):=by
 show(bq Γ n).bind _=_
 rw[h];exact congrArg (fun o=>o.map fun d=>(d,Γ.set n none)) h2
theorem vR{n:Nat}{k v:V}{m m':Mu}(h:bq Γ n=some m)(h2:zJ k v m=some m'):ku Γ k v (.loc n)=some (Γ.set n (some m')):=by
 show(bq Γ n).bind _=_
 rw[h];exact congrArg (fun o=>o.map fun m=>Γ.set n (some m)) h2
theorem ja{n:Nat}{C:Addr}{fs:List (Nat×D)}{xx tt:Bool}(h:bq Γ n=some (.exc C fs xx tt)):i8 Γ n=some ⟨C,fs,xx,tt⟩:=by
 show(bq Γ n).bind _=_
 rw[h];rfl
theorem af(h:s.ex T O m ρ Γ = .ok .next ρ1 Γ1)(h2:ss.ex T O m ρ1 Γ1=r):(av.cons s ss).ex T O m ρ Γ=r:=br h h2
theorem aG(h:s.ex T O m ρ Γ = .ok (.ret v) ρ1 Γ1):(av.cons s ss).ex T O m ρ Γ = .ok (.ret v) ρ1 Γ1:=br h rfl
theorem EB(h:s.ex T O m ρ Γ = .ok .brk ρ1 Γ1):(av.cons s ss).ex T O m ρ Γ = .ok .brk ρ1 Γ1:=br h rfl
theorem fS{n:Nat}(h:s.ex T O m ρ Γ = .ex n ρ1 Γ1):(av.cons s ss).ex T O m ρ Γ = .ex n ρ1 Γ1:=mR h
theorem aV(h:t.ev O m T ρ Γ = .ok true ρ1 Γ1)(h2:a.ex T O m ρ1 Γ1=r):(St.ifs t a b p).ex T O m ρ Γ=r:=br h h2
theorem aw(h:t.ev O m T ρ Γ = .ok false ρ1 Γ1)(h2:b.ex T O m ρ1 Γ1=r):(St.ifs t a b p).ex T O m ρ Γ=r:=br h h2
theorem aW{i:Nat}(h:e.ev O m T ρ Γ = .ok v ρ1 Γ1):(St.asg (.var i p1) e p).ex T O m ρ Γ = .ok .next (ρ1.set i (some v)) Γ1:=br h rfl
theorem bo{t:Ex}(h:e.ev O m T ρ Γ = .ok v ρ1 Γ1)(h2:t.bC O m T v ρ1 Γ1 = .ok () ρ2 Qp):(St.asg t e p).ex T O m ρ Γ = .ok .next ρ2 Qp:=br h (br h2 rfl)
theorem bP(h:e.ev O m T ρ Γ = .ok v ρ1 Γ1):(St.ret e p).ex T O m ρ Γ = .ok (.ret v) ρ1 Γ1:=br h rfl
theorem jH{x:V}{a:Ex}{me:Me}{es:bf}{vs:List V}{pa p:Nat}(h1:a.ev O m T ρ Γ = .ok x ρ1 Γ1)(hr:gF Γ1 me x=true)(h2:es.ev O m T ρ1 Γ1 = .ok vs ρ2 Qp)(h3:method Qp me x vs=some (v,S8)):(Ex.jz a me es pa p).ev O m T ρ Γ = .ok v ρ2 S8:=br h1 (jf hr (br h2 (eG h3 rfl)))
theorem aj{es:bf}{vs:List V}(h1:e.ev O m T ρ Γ = .ok v ρ1 Γ1)(h2:es.ev O m T ρ1 Γ1 = .ok vs ρ2 Qp):(bf.cons e es).ev O m T ρ Γ = .ok (v::vs) ρ2 Qp:=br h1 (br h2 rfl)
theorem sZ{i:Nat}(h:ρ[i]?=some (some v)):(Ex.var i p).ev O m T ρ Γ = .ok v ρ Γ:=opt (by rw[h];rfl)
theorem rq{n:Nat}{l:List D}(h:bq Γ n=some (.list l)):l6 Γ (.loc n)=some (n,l):=by
 show(bq Γ n).bind _=_
 rw[h];rfl
theorem eM(h1:e.ev O m T ρ Γ = .ok v ρ1 Γ1)(h2:oZ v=true):(St.expr e p).ex T O m ρ Γ = .ok .next ρ1 Γ1:=br h1 (jf h2 rfl)
theorem dw{i n:Nat}{l:List D}{x:D}(h1:ρ[i]?=some (some (.loc n)))(h2:bq Γ n=some (.list l))(he:e.ev O m T ρ Γ = .ok (.d x) ρ1 Γ1)(h3:bq Γ1 n=some (.list l))(hf:ay (l.length+1)=true):
  (St.expr (.jz (.var i p) .append (.cons e .nil) p1 p2) p3).ex T O m ρ Γ = .ok .next ρ1 (Γ1.set n (some (.list (l++[x])))):=by
 refine eM (v := .d .none) (jH (sZ h1) (by show(l6 Γ (.loc n)).isSome=true;rw[rq h2];rfl) (aj he rfl) (h3 := ?_)) rfl
 show(l6 Γ1 (.loc n)).bind _=_
 rw[rq h3];show cond (ay (l.length+1)) _ _=_
 rw[hf];rfl
theorem az{k:Nat}{q:Bool}{es:bf}{fa:Ex}{ad:Addr}{vs:List V}{r:RG}{z:Res V}(h1:fa.ev O m T ρ Γ = .ok (.d (.val (.ref ad))) ρ Γ)(h2:es.ev O m T ρ Γ = .ok vs ρ Γ)(h3:(OI k T.fa.length&&I' ad (T.fa.getD k 0))=true)(h4:d4 O m k q vs Γ=r)(h5:r.res ρ=z):
  (Ex.call k fa q es p).ev O m T ρ Γ=z:=br h1 (br h2 (jf h3 ((congrArg (RG.res ρ) h4).trans h5)))
theorem cJ{tg it:Ex}{vs:List V}(h1:it.ev O .free T ρ Γ = .ok v ρ1 Γ1)(h2:dm v=some vs)(h3:bO (fun v ρ Γ=>(tg.bC O .free T v ρ Γ).bind fun _ ρ Γ=>b.ex T O .free ρ Γ) vs ρ1 Γ1=r):
  (St.kz tg it b p).ex T O .free ρ Γ=r:=br h1 (eG h2 h3)
variable{tt:aq->ag->Res Bool}{bb:aq->ag->Res Fl}{fb:V->aq->ag->Res Fl}{k:Nat}{vs:List V}
theorem uF(h:tt ρ Γ = .ok true ρ1 Γ1)(hb:bb ρ1 Γ1 = .ok .next ρ2 Qp)(h2:fO tt bb k ρ2 Qp=r):fO tt bb (k+1) ρ Γ=r:=br h (br hb h2)
theorem uc(h:tt ρ Γ = .ok false ρ1 Γ1):fO tt bb (k+1) ρ Γ = .ok .next ρ1 Γ1:=br h rfl
theorem bW(hb:fb v ρ Γ = .ok .next ρ1 Γ1)(h2:bO fb vs ρ1 Γ1=r):bO fb (v::vs) ρ Γ=r:=br hb h2
theorem jE(hb:fb v ρ Γ = .ok (.ret w) ρ1 Γ1):bO fb (v::vs) ρ Γ = .ok (.ret w) ρ1 Γ1:=br hb rfl
theorem BC(hb:fb v ρ Γ = .ok .brk ρ1 Γ1):bO fb (v::vs) ρ Γ = .ok .next ρ1 Γ1:=br hb rfl
theorem BF{n:Nat}(hb:fb v ρ Γ = .ex n ρ1 Γ1):bO fb (v::vs) ρ Γ = .ex n ρ1 Γ1:=mR hb
theorem Kw{i:Nat}:(fun v ρ Γ=>((Ex.var i p).bC O m T v ρ Γ).bind fun _ ρ Γ=>b.ex T O m ρ Γ)=fun v ρ Γ=>b.ex T O m (ρ.set i (some v)) Γ:=rfl
end rules
theorem aH{n:Nat}{bb:Bool}{k:Nat}{as:List V}{Γ:ag}{f:Fn}{ρ:aq}{r:RG}(h1:FF k=some f)(h2:f.start as=some ρ)(h3:(f.body.ex {TT with gn:=f.gl} (calls TT FF n) (cond bb .free .eS) ρ Γ).out=r):calls TT FF (n+1) bb k as Γ=r:=by
 show RG.aT (FF k) _=_
 rw[h1];show RG.aT (f.start as) _=_
 rw[h2];exact h3
theorem aR{r:Res Fl}{v:V}{ρ:aq}{Γ:ag}(h:r = .ok (.ret v) ρ Γ):r.out = .ok v Γ:=by rw[h];rfl
theorem lh{r:Res Fl}{n:Nat}{ρ:aq}{Γ:ag}(h:r = .ex n ρ Γ):r.out = .ex n Γ:=by rw[h];rfl
theorem kI{r:Res Fl}{ρ:aq}{Γ:ag}(h:r = .ok .next ρ Γ):r.out = .ok (.d .none) Γ:=by rw[h];rfl
theorem aN{O:aL}{k:Nat}{vs:List V}{Γ Γ':ag}{x:D}(h0:iB vs=true)(h:O true k vs [] = .ok (.d x) Γ'):d4 O .free k true vs Γ = .ok (.d x) Γ:=by
 show cond (iB vs) (eV Γ (O true k vs [])) .no=_
 rw[h0,h];rfl
theorem Dw{O:aL}{k:Nat}{vs:List V}{Γ Γ':ag}{n:Nat}{C:Addr}{fs:List (Nat×D)}{x t:Bool}(h0:iB vs=true)(h:O true k vs [] = .ex n Γ')(hg:bq Γ' n=some (.exc C fs x t)):d4 O .free k true vs Γ = .ex Γ.length (Γ++[some (.exc C fs x t)]):=by
 show cond (iB vs) (eV Γ (O true k vs [])) .no=_
 rw[h0,h];show RG.aT ((bq Γ' n).bind _) _=_
 rw[hg];rfl
end Mine.Pl
namespace Mine
noncomputable def av.ak:av->Nat->St
 | .nil,_ => .brk 0
 | .cons s _,0=>s
 | .cons _ ss,n+1=>ss.ak n
noncomputable def av.from:av->Nat->av
 |ss,0=>ss
 | .nil,_ => .nil
 | .cons _ ss,n+1=>ss.from n
noncomputable def St.wt:St->Te
 | .nZ t _ _=>t
 | .ifs t _ _ _=>t
 |_ => .val (.none 0)
noncomputable def St.wb:St->av
 | .nZ _ b _=>b
 | .kz _ _ b _=>b
 | .ifs _ b _ _=>b
 | .gQ b _ _ _ _ _=>b
 | .iJ b _ _=>b
 |_ => .nil
end Mine
namespace Mine.Pl
noncomputable def oR:List (Tx×Tx):=[([97],[97]),([97],[123,97,125]),([98],[98]),([98],[34,98,34]),([],[123,125]),([],[34,34]),([97,32,98],[123,97,32,98,125]),([97,32,98],[97,92,32,98]),([35],[123,35,125]),([35],[35]),([35],[92,35]),([125],[92,125]),([125],[34,125,34]),([49],[49]),([49],[92,54,49]),([98,97],[98,97]),([98,97],[92,120,54,50,97]),([98,35,97],[98,35,97]),([98,35,97],[34,98,35,97,34])]
noncomputable def rN:List Tx:=[[],[32],[32,9],[10]]
noncomputable def Ab:List (Tx×Bool):=[([],true),([32],false),([10],false)]
noncomputable def I7:AV->Option (List AV)
 | .tup l=>some l
 |_=>none
theorem EU{a:AV}{l}(h:I7 a=some l):a = .tup l:=by
 cases a with
 |tup x=>exact congrArg AV.tup (j' h)
 |_=>exact aE h
noncomputable def F8(r:Option AV)(x:Tx)(j:Nat):Bool:=fP (r.bind fun a=>(I7 a).bind fun l=>(two l).bind fun w=>(w.1.d?.bind D.ck).bind fun y=>w.2.pos?.map fun k=>ao y x&&I' k j)
theorem EG(n:Nat):(oR.all fun q=>rN.all fun bl=>Ab.all fun e=>F8 (jZ (bl++(q.2++e.1)) e.2 TT FF (n+5) 19 [.view,.pos 0]) q.1 (bl.length+q.2.length))=true:=by kernel_rfl
theorem Dk(n:Nat):jZ [] true TT FF (n+2) 19 [.view,.pos 0]=some (.d .none):=by kernel_rfl
theorem bG{a b:Tx}(h:ao a b=true):a=b:=(fD a b).mp h
theorem BR{r:Option AV}{x:Tx}{j:Nat}(h:F8 r x j=true):r=some (.tup [.d (.str x),.pos j]):=by
 obtain⟨a,h1,h⟩:=ai (cK h);obtain⟨l,h2,h⟩:=ai h;obtain⟨w,h3,h⟩:=ai h;obtain⟨y,h4,h⟩:=ai h;obtain⟨k,h5,h⟩:=aJ h;obtain⟨d,h6,h7⟩:=ai h4;rw[h1,EU h2,gB h3,AV.cf h6,D.cC h7,AV.gN h5,bG (a1 h),N2 (a2 h)]
theorem wy{X:Tx}{p n:Nat}{q:Tx×Tx}{bl:Tx}{e:Tx×Bool}(hq:q∈oR)(hb:bl∈rN)(he:e∈Ab)(W:Vw X (bl++(q.2++e.1)) p e.2):
  ∃Γ',calls TT FF (n+5) true 19 [.d (.str X),.d (.int (.ofNat p))] [] = .ok (.d (.tup [.str q.1,.int (.ofNat (p+(bl.length+q.2.length)))])) Γ':=by
 obtain⟨w,Γ',h1,h2⟩:=lR W TT FF (n+5) _ _ _ [.d (.str X),.d (.int (.ofNat p))] (BR (iH (iH (iH (EG n) hq) hb) he)) ⟨_,_,rfl,rfl,_,_,rfl,rfl,rfl⟩;obtain⟨ds,h3,d1,r1,rfl,h4,d2,r2,rfl,h5,rfl⟩:=h2;injection h3 with h3;subst h3;injection h4 with h4;subst h4;injection h5 with h5;subst h5
 exact⟨Γ',h1⟩
theorem Fc{X:Tx}{n:Nat}(hX:ay X.length=true): ∃Γ',calls TT FF (n+5) true 19 [.d (.str X),.d (.int (.ofNat X.length))] [] = .ok (.d .none) Γ':=by
 obtain⟨w,Γ',h1,h2⟩:=lR (X:=X) (U:=[]) (p:=X.length) (cl:=true) ⟨⟨X,[],(OE X).symm,rfl,fun _=>rfl⟩,hX⟩ TT FF (n+5) _ _ _ [.d (.str X),.d (.int (.ofNat X.length))] (Dk (n+3)) ⟨_,_,rfl,rfl,_,_,rfl,rfl,rfl⟩
 injection h2 with h2;subst h2
 exact⟨Γ',h1⟩
noncomputable abbrev Ch:=Tx×(Tx×Tx)
noncomputable def ax:List Ch->Tx
 | []=>[]
 |c::r=>c.1++(c.2.2++ax r)
theorem jU:ax []=[]:=rfl
theorem jR{c:Ch}{r:List Ch}:ax (c::r)=c.1++(c.2.2++ax r):=rfl
def gK:List Ch->Prop
 | []=>True
 |c::r=>c.1∈rN/\c.2∈oR/\(∀b∈r,b.1≠[])/\gK r
noncomputable def kZ(p:Nat):List Ch->D
 | [] => .none
 |c::_ => .tup [.str c.2.1,.int (.ofNat (p+(c.1.length+c.2.2.length)))]
theorem xm{X:Tx}{n:Nat}(hX:ay X.length=true): ∀(r:List Ch) (pre:Tx),gK r->X=pre++ax r->∃Γ',calls TT FF (n+5) true 19 [.d (.str X),.d (.int (.ofNat pre.length))] [] = .ok (.d (kZ pre.length r)) Γ'
 | [],pre,_,e=>by
  have:X.length=pre.length:=by rw[e];simp[jU,jR]
  rw[<-this];exact Fc hX
 | [c],pre,h,e=>by
  obtain⟨h1,h2,h3,h4⟩:=h;refine wy (q:=c.2) (bl:=c.1) (e:=([],true)) h2 h1 (by simp[Ab]) ⟨⟨pre,[],?_,rfl,fun _=>rfl⟩,hX⟩
  rw[e];simp[jU,jR]
 |c::c2::r,pre,h,e=>by
  obtain⟨h1,h2,h3,h4,-⟩:=h;have hn:=h3 c2 (by simp)
  have : ∃ch tl,c2.1=ch::tl/\(ch=32\/ch=10):=by
   simp only[rN,N7,Ou,or_false] at h4;rcases h4 with q | q | q | q
   ·exact absurd q hn
   ·exact⟨_,_,q,.inl rfl⟩
   ·exact⟨_,_,q,.inl rfl⟩
   ·exact⟨_,_,q,.inr rfl⟩
  obtain⟨ch,tl,hc,hch⟩:=this;refine wy (q:=c.2) (bl:=c.1) (e:=([ch],false)) h2 h1 ?_ ⟨⟨pre,tl++(c2.2.2++ax r),?_,rfl,fun q=>by injection q⟩,hX⟩
  ·rcases hch with rfl | rfl<;>simp[Ab]
  ·rw[e];simp[jU,jR,hc]
noncomputable abbrev TG(g:List (Str×D)):Tab:={TT with gn:=g}
theorem Jd{X:Tx}{n:Nat}(hX:ay X.length=true): ∀(r:List Ch) (k:Nat) (acc:List D) (pre:Tx),gK r->X=pre++ax r->r.length<k->acc.length+r.length<=1000->
  fO (fun ρ Γ=>(xT.ak 2).wt.ev (calls TT FF (n+5)) .free (TG Ac) ρ Γ) (fun ρ Γ=>(xT.ak 2).wb.ex (TG Ac) (calls TT FF (n+5)) .free ρ Γ) k [some (.d (.str X)),some (.loc 0),some (.d (kZ pre.length r))] [some (.list acc)]
   = .ok .next [some (.d (.str X)),some (.loc 0),some (.d .none)] [some (.list (acc++r.map fun c => .str c.2.1))]
 | [],k+1,acc,pre,_,_,_,_=>by simp only[List.map_nil,OE];rfl
 |c::r,k+1,acc,pre,h,e,hk,ha=>by
  have e2:X=(pre++(c.1++c.2.2))++ax r:=by rw[e];simp[jU,jR]
  obtain⟨Γ',h2⟩:=xm (n:=n) hX r _ h.2.2.2 e2;have ih:=Jd (n:=n) hX r k (acc++[.str c.2.1]) _ h.2.2.2 e2 (by simp only[N6] at hk;exact P7 ‹_›) (by simp only[N6,N1,Pk] at ha ⊢;exact ba ha)
  have hf:ay (acc.length+1)=true:=O4.mpr (by unfold vt;simp only[N6] at ha;exact ba ha)
  have hl:(pre++(c.1++c.2.2)).length=pre.length+(c.1.length+c.2.2.length):=by simp
  rw[hl] at h2 ih;have hb:(xT.ak 2).wb.ex (TG Ac) (calls TT FF (n+5)) .free [some (.d (.str X)),some (.loc 0),some (.d (kZ pre.length (c::r)))] [some (.list acc)] = .ok .next [some (.d (.str X)),some (.loc 0),some (.d (kZ (pre.length+(c.1.length+c.2.2.length)) r))] [some (.list (acc++[.str c.2.1]))]:=by
   refine af (dw (l:=acc) rfl rfl (x := .str c.2.1) (Γ1:=[some (.list acc)]) rfl rfl hf) ?_
   refine af (aW (v := .d (kZ (pre.length+(c.1.length+c.2.2.length)) r)) (ρ1:=[some (.d (.str X)),some (.loc 0),some (.d (kZ pre.length (c::r)))]) (Γ1:=[some (.list (acc++[.str c.2.1]))]) ?_) rfl
   exact az (vs:=[.d (.str X),.d (.int (.ofNat (pre.length+(c.1.length+c.2.2.length))))]) (ad:=293) rfl rfl rfl (aN rfl h2) rfl
  refine uF (ρ1:=[some (.d (.str X)),some (.loc 0),some (.d (kZ pre.length (c::r)))]) (Γ1:=[some (.list acc)]) rfl hb ?_
  rw[ih];simp
 |_,0,_,_,_,_,hk,_=>by cases hk
theorem LZ{r:List Ch}(h:gK r)(hf:ay (ax r).length=true)(hr:r.length<=900)(n:Nat):calls TT FF (n+6) true 20 [.d (.str (ax r))] [] = .ok (.d (.lst (r.map fun c => .str c.2.1))) [none]:=by
 refine aH (f:=Jp) rfl rfl (aR (ρ:=[some (.d (.str (ax r))),some (.d (.lst (r.map fun c => .str c.2.1))),some (.d .none)]) ?_)
 obtain⟨Γ',h2⟩:=xm (n:=n) hf r [] h rfl;refine af (ρ1:=[some (.d (.str (ax r))),some (.loc 0),none]) (Γ1:=[some (.list [])]) rfl ?_
 refine af (aW (v := .d (kZ 0 r)) (ρ1:=[some (.d (.str (ax r))),some (.loc 0),none]) (Γ1:=[some (.list [])]) ?_) ?_
 ·exact az (vs:=[.d (.str (ax r)),.d (.int (.ofNat 0))]) (ad:=293) rfl rfl rfl (aN rfl h2) rfl
 ·exact af (s:=xT.ak 2) (Jd (n:=n) hf r rounds [] [] h rfl (by unfold rounds;exact ot ‹_›) (by simp;exact bg ‹_›)) rfl
section rules
variable{T:Tab}{O:aL}{m:Md}{ρ ρ1 ρ2 UH:aq}{Γ Γ1 Qp S8:ag}{a b e:Ex}{t:Te}{x y z:D}{u v w:V}{p:Nat}
theorem aC{op:Pq}(h1:a.ev O m T ρ Γ = .ok (.d x) ρ1 Γ1)(h2:b.ev O m T ρ1 Γ1 = .ok (.d y) ρ2 Qp)(h3:gZ op x y=some z):(Ex.bin op a b p).ev O m T ρ Γ = .ok (.d z) ρ2 Qp:=br h1 (br h2 (opt (congrArg (·.map V.d) h3)))
theorem bc{op:Rp}{r:Bool}(h1:a.ev O m T ρ Γ = .ok u ρ1 Γ1)(h2:b.ev O m T ρ1 Γ1 = .ok v ρ2 Qp)(h3:iG Qp op u v=some r):(Ex.cmp op a b p).ev O m T ρ Γ = .ok (.d (.bool r)) ρ2 Qp:=br h1 (br h2 (opt (congrArg (fun o=>o.map fun b=>V.d (.bool b)) h3)))
theorem aM(h1:a.ev O m T ρ Γ = .ok u ρ1 Γ1)(h2:b.ev O m T ρ1 Γ1 = .ok v ρ2 Qp)(h3:cF Qp u v=some w):(Ex.sub a b p).ev O m T ρ Γ = .ok w ρ2 Qp:=br h1 (br h2 (opt h3))
theorem gM(h1:t.ev O m T ρ Γ = .ok true ρ1 Γ1){r:Res V}(h2:a.ev O m T ρ1 Γ1=r):(Ex.oV t a b p).ev O m T ρ Γ=r:=br h1 h2
theorem gV(h1:t.ev O m T ρ Γ = .ok false ρ1 Γ1){r:Res V}(h2:b.ev O m T ρ1 Γ1=r):(Ex.oV t a b p).ev O m T ρ Γ=r:=br h1 h2
theorem aY{q:Bool}(h1:e.ev O m T ρ Γ = .ok v ρ1 Γ1)(h2:d9 Γ1 v=some q):(Te.val e).ev O m T ρ Γ = .ok q ρ1 Γ1:=br h1 (opt h2)
noncomputable def dA(O:aL)(T:Tab)(tgt elt:Ex)(ifs:bY):V->aq->ag->Res (Option V):=fun v ρ Γ=>(tgt.bC O .free T v ρ Γ).bind fun _ ρ Γ=>(ifs.bL O .free T ρ Γ).bind fun b ρ Γ=>cond b ((elt.ev O .free T ρ Γ).bind fun v ρ Γ => .ok (some v) ρ Γ) (.ok none ρ Γ)
theorem hW{tgt elt:Ex}{ifs:bY}(h1:tgt.bC O .free T v ρ Γ = .ok () ρ1 Γ1)(h2:ifs.bL O .free T ρ1 Γ1 = .ok true ρ2 Qp)(h3:elt.ev O .free T ρ2 Qp = .ok w UH S8):dA O T tgt elt ifs v ρ Γ = .ok (some w) UH S8:=br h1 (br h2 (br h3 rfl))
theorem HU{tgt elt:Ex}{ifs:bY}(h1:tgt.bC O .free T v ρ Γ = .ok () ρ1 Γ1)(h2:ifs.bL O .free T ρ1 Γ1 = .ok false ρ2 Qp):dA O T tgt elt ifs v ρ Γ = .ok none ρ2 Qp:=br h1 (br h2 rfl)
theorem fJ {elt tgt it:Ex} {ifs:bY} {locs:List Str} {aA:List Nat} {gk:List (Str×D)} {sc:QC} {vs:List V} {l:List D} (h1:it.ev O .free T ρ Γ = .ok v ρ1 Γ1) (h2:dm v=some vs) (h3:ay vs.length=true)
  (h4 : ∃ρ2,di (dA O (T.sub gk) tgt elt ifs) vs (O1 locs.length none++aA.map fun i=>(ρ1[i]?).join) Γ1 [] = .ok l ρ2 Qp) :
  (Ex.comp elt tgt it ifs locs aA gk sc p).ev O .free T ρ Γ = .ok (.d (.lst l)) ρ1 Qp:=by
 obtain⟨ρ2,h4⟩:=h4;exact br h1 (eG h2 (jf (show(Md.free.b&&ay vs.length)=true from h3) (eG (a:=(l,Qp)) (congrArg Res.D1 h4) rfl)))
theorem d5{es:bf}{vs:List V}{l:List D}(h1:es.ev O m T ρ Γ = .ok vs ρ1 Γ1)(h2:iW vs=some l)(h3:ay vs.length=true):(Ex.tup es p).ev O m T ρ Γ = .ok (.d (.tup l)) ρ1 Γ1:=br h1 (opt (by rw[h3,h2];rfl))
theorem GD{es:bf}{vs:List V}{l:List D}(h1:es.ev O m T ρ Γ = .ok vs ρ1 Γ1)(h2:iW vs=some l)(h3:ay vs.length=true):(Ex.lst es p).ev O m T ρ Γ = .ok (.d (.lst l)) ρ1 Γ1:=br h1 (opt (by rw[h3,h2];rfl))
theorem nP{one:V->aq->ag->Res (Option V)}{vs:List V}{o:Option V}{l' acc:List D}{r:Res (List D)}(h:one v ρ Γ = .ok o ρ1 Γ1)(h2:outD o=some l')(h3:di one vs ρ1 Γ1 (l'++acc)=r):di one (v::vs) ρ Γ acc=r:=eG (a:=(o,ρ1,Γ1)) (congrArg Res.y0 h) (eG h2 h3)
end rules
theorem pg{α:Type}{one:V->aq->ag->Res (Option V)}{g:α->V}{f:α->Option D}{I:aq->Prop}{Γ:ag}(l:List α): ∀(ρ:aq) (acc:List D),(∀a,a∈l->∀ρ,I ρ->∃O3,one (g a) ρ Γ = .ok ((f a).map .d) O3 Γ/\I O3)->I ρ->∃O3,di one (l.map g) ρ Γ acc = .ok (acc.reverse++l.filterMap f) O3 Γ:=by
 induction l with
 |nil=>intro ρ acc _ _;exact⟨ρ,by rw[List.filterMap_nil,OE];rfl⟩
 |cons a l ih=>
  intro ρ acc H hI;obtain⟨O3,h1,h2⟩:=H a (.head _) ρ hI;rw[R1];cases q:f a with
  |none=>
   rw[q] at h1;obtain⟨ρ2,h3⟩:=ih O3 acc (fun a ha=>H a (.tail _ ha)) h2
   exact⟨ρ2,nP h1 rfl h3⟩
  |some d=>
   rw[q] at h1;obtain⟨ρ2,h3⟩:=ih O3 (d::acc) (fun a ha=>H a (.tail _ ha)) h2
   exact⟨ρ2,nP h1 rfl (h3.trans (by rw[U9,Oh];rfl))⟩
theorem gy{α:Type}{f:α->D}{l:List α}:dm (.d (.lst (l.map f)))=some (l.map fun a => .d (f a)):=congrArg some Pc
theorem IY{α:Type}{f:α->D}{l:List α}:dm (.d (.tup (l.map f)))=some (l.map fun a => .d (f a)):=congrArg some Pc
theorem lB{α:Type}{f:α->Tx×D}{l:List α}:dm (.d (.bH (l.map f)))=some (l.map fun a => .d (.str (f a).1)):=congrArg some Pc
theorem x8{α:Type}{f:α->Int×D}{l:List α}:dm (.d (.gs (l.map f)))=some (l.map fun a => .d (.int (f a).1)):=congrArg some Pc
theorem comp_map{α:Type}{one:V->aq->ag->Res (Option V)}{g:α->V}{f:α->D}{I:aq->Prop}{Γ:ag}(l:List α)(ρ:aq)(H : ∀a,a∈l->∀ρ,I ρ->∃O3,one (g a) ρ Γ = .ok (some (.d (f a))) O3 Γ/\I O3)(hI:I ρ): ∃O3,di one (l.map g) ρ Γ [] = .ok (l.map f) O3 Γ:=by
 obtain⟨O3,h⟩:=pg (f:=fun a=>some (f a)) l ρ [] H hI
 exact⟨O3,by rw[h];simp⟩
noncomputable abbrev bx(p:Tx×Tx):D := .tup [.str p.1,.str p.2]
theorem iu : ∀a b:Tx,ao a b=ao b a
 | [],[]=>rfl
 | [],_::_=>rfl
 |_::_,[]=>rfl
 |a::x,b::y=>by
  simp only[oP,og,oq,lE];rw[iu x y];congr 1;rw[Pz,To,To];exact eq_comm
theorem nD(k:Tx): ∀l:List Tx,iA (.str k) (l.map .str)=some (isAt k l)
 | []=>rfl
 |x::r=>by
  show(iA (.str k) (r.map .str)).map _=_
  rw[nD k r];show some (ao x k||isAt k r)=some (cond (ao k x) true (isAt k r))
  rw[iu x k];cases ao k x<;>rfl
theorem ki{k:Tx}: ∀{l:List Tx},isAt k l=true↔k∈l
 | []=>by simp[sQ,sL]
 |x::r=>by
  simp only[sQ,sL,N7];cases q:ao k x with
  |true=>simp[bG q]
  |false=>
   simp only[cond_false,ki];constructor
   ·exact fun h => .inr h
   ·rintro(rfl | h)
    ·injection (dz ..).symm.trans q
    ·exact h
theorem jn{α:Type}{k:Tx}{v:α}: ∀{l:List (Tx×α)},k∉l.map Oq->aQ k v l=l++[(k,v)]
 | [],_=>rfl
 |x::r,h=>by
  simp only[Oa,N7,not_or] at h;have:ao k x.1=false:=by cases q:ao k x.1 with | false=>rfl | true=>exact absurd (bG q) h.1
  simp only[fL,fN,this,cond_false,jn h.2,QG]
theorem qj{k v:Tx}: ∀{l:List (Tx×Tx)},(l.map Oq).Nodup->k∈l.map Oq->aQ k v l=l.map fun p=>(p.1,cond (ao p.1 k) v p.2)
 | [],_,h=>by simp at h
 |x::r,hn,h=>by
  simp only[Oa,Py] at hn;simp only[fL,fN,Oa];rw[iu x.1 k];cases q:ao k x.1 with
  |true=>
   simp only[cond_true];congr 1;have e:=bG q;subst e;have : ∀p∈r,(p.1,cond (ao p.1 x.1) v p.2)=p:=fun p hp=>by
    have:ao p.1 x.1=false:=by
     cases q2:ao p.1 x.1 with
     |false=>rfl
     |true=>exact absurd (Ph hp) (bG q2▸hn.1)
    rw[this];rfl
   rw[QV this];simp
  |false=>
   simp only[cond_false];congr 1;simp only[Oa,N7] at h;rcases h with h | h
   ·rw[h,dz] at q;injection q
   ·exact qj hn.2 h
theorem oO{α:Type}{k:Tx}{v:α}: ∀{l:List (Tx×α)},(aQ k v l).map Oq=cond (isAt k (l.map Oq)) (l.map Oq) (l.map Oq++[k])
 | []=>rfl
 |x::r=>by
  simp only[fL,fN,Oa,sQ,sL];cases q:ao k x.1 with
  |true=>simp
  |false=>simp only[cond_false,Oa,oO];cases isAt k (r.map Oq)<;>rfl
theorem mP{α:Type}{k:Tx}{v:α}{l:List (Tx×α)}(h:(l.map Oq).Nodup):((aQ k v l).map Oq).Nodup:=by
 rw[oO];cases q:isAt k (l.map Oq) with
 |true=>exact h
 |false=>
  have:k∉l.map Oq:=fun hk=>by rw[ki.mpr hk] at q;injection q
  simp only[cond_false];rw[Qf];exact⟨h,by simp,fun a ha b hb=>by simp only[N7,Ou,or_false] at hb;subst hb;rintro rfl;exact this ha⟩
theorem ej{α:Type}{k:Tx}{v:α}: ∀{l:List (Tx×α)},(aQ k v l).length<=l.length+1
 | []=>by simp[fL,fN]
 |x::r=>by
  simp only[fL,fN];cases q:ao k x.1 with
  |true=>simp
  |false=>simp only[cond_false,N6];have:=ej (k:=k) (v:=v) (l:=r);exact ba this
theorem kU{α β:Type}{k:Tx}{v:α}(f:α->β): ∀{l:List (Tx×α)},aQ k (f v) (l.map fun p=>(p.1,f p.2))=(aQ k v l).map fun p=>(p.1,f p.2)
 | []=>rfl
 |x::r=>by
  simp only[Oa,fL,fN];cases q:ao k x.1 with
  |true=>rfl
  |false=>simp only[cond_false,Oa,kU f]
theorem aO{n:Nat}(h:n<=16777216):ay n=true:=O4.mpr h
theorem MF(n:Nat){ps:List (Tx×Tx)}{k v:Tx}(hl:ps.length<=1000)(hn:(ps.map Oq).Nodup):calls TT FF (n+1) true 42 [.d (.lst (ps.map bx)),.d (.str k),.d (.str v)] [] = .ok (.d (.lst ((aQ k v ps).map bx))) []:=by
 have hit:dm (.d (.lst (ps.map bx)))=some (ps.map fun p => .d (bx p)):=gy
 have hf:ay (ps.map fun p=>V.d (bx p)).length=true:=aO (by simp;exact bg ‹_›)
 refine aH (f:=JE) rfl rfl (aR (ρ:=[some (.d (.lst (ps.map bx))),some (.d (.str k)),some (.d (.str v))]) ?_)
 have hm:(ps.map fun p=>D.str p.1)=(ps.map Oq).map .str:=by rw[Pc];rfl
 cases q:isAt k (ps.map Oq) with
 |true=>
  refine aG (aV (ρ1:=[some (.d (.lst (ps.map bx))),some (.d (.str k)),some (.d (.str v))]) (Γ1:=[]) (aY (bc (v := .d (.lst (ps.map fun p => .str p.1))) (r:=true) rfl (fJ rfl hit hf (comp_map (I:=fun ρ => ∃a b,ρ=[a,b]) ps _ ?_ ⟨_,_,rfl⟩)) ?_) rfl) ?_)
  ·rintro p hp _ ⟨a,b,rfl⟩
   exact⟨[some (.d (.str p.1)),some (.d (.str p.2))],rfl,_,_,rfl⟩
  ·show iA (.str k) _=_;rw[hm,nD,q]
  ·refine aG (bP (fJ rfl hit hf ?_))
   rw[qj hn (ki.mp q),Pc];refine comp_map (I:=fun ρ => ∃a b,ρ=[a,b,some (.d (.str k)),some (.d (.str v))]) ps _ ?_ ⟨_,_,rfl⟩
   rintro p hp _ ⟨a,b,rfl⟩;refine⟨[some (.d (.str p.1)),some (.d (.str p.2)),some (.d (.str k)),some (.d (.str v))],?_,_,_,rfl⟩
   refine hW (ρ1:=[some (.d (.str p.1)),some (.d (.str p.2)),some (.d (.str k)),some (.d (.str v))]) (Γ1:=[]) rfl rfl (d5 (vs:=[.d (.str p.1),.d (.str (cond (ao p.1 k) v p.2))]) (aj rfl (aj ?_ rfl)) rfl rfl)
   cases hq:ao p.1 k with
   |true=>exact gM (aY (bc rfl rfl (r:=true) (by show some (ao p.1 k)=_;rw[hq])) rfl) rfl
   |false=>exact gV (aY (bc rfl rfl (r:=false) (by show some (ao p.1 k)=_;rw[hq])) rfl) rfl
 |false=>
  have hni:k∉ps.map Oq:=fun h=>by rw[ki.mpr h] at q;injection q
  refine af (ρ1:=[some (.d (.lst (ps.map bx))),some (.d (.str k)),some (.d (.str v))]) (Γ1:=[]) (aw (aY (bc (v := .d (.lst (ps.map fun p => .str p.1))) (r:=false) rfl (fJ rfl hit hf (comp_map (I:=fun ρ => ∃a b,ρ=[a,b]) ps _ ?_ ⟨_,_,rfl⟩)) ?_) rfl) rfl) ?_
  ·rintro p hp _ ⟨a,b,rfl⟩
   exact⟨[some (.d (.str p.1)),some (.d (.str p.2))],rfl,_,_,rfl⟩
  ·show iA (.str k) _=_;rw[hm,nD,q]
  ·refine aG (bP (aC rfl (y := .lst [bx (k,v)]) rfl ?_))
   rw[jn hni,OM];show cond (ay (_+1)) _ _=_
   rw[aO (by simp;exact bg ‹_›)];rfl
noncomputable def flat:List (Tx×Tx)->List Tx
 | []=>[]
 |p::r=>p.1::p.2::flat r
theorem fy:flat []=[]:=rfl
theorem eZ{p:Tx×Tx}{r:List (Tx×Tx)}:flat (p::r)=p.1::p.2::flat r:=rfl
theorem hJ : ∀l,(flat l).length=2 * l.length
 | []=>rfl
 |p::r=>by simp only[fy,eZ,N6,hJ r];exact O2 _ _
noncomputable def aD(ps:List (Tx×Tx)):List (Tx×D):=ps.map fun p=>(p.1,.str p.2)
noncomputable def putAll(acc:List (Tx×Tx))(ds:List (Tx×Tx)):List (Tx×Tx):=ds.foldl (fun acc p=>aQ p.1 p.2 acc) acc
theorem bB{l:List D}{i:Nat}{x:D}{Γ:ag}(h:l[i]?=some x)(hl:l.length<=1000000):cF Γ (.d (.lst l)) (.d (.int (.ofNat i)))=some (.d x):=by
 have hi:i<l.length:=(N3.mp h).1;have h1:OI i l.length=true:=O4.mpr hi;have hp:place (.ofNat i) l.length=some i:=by
  show cond (OI i l.length&&ay i) _ _=_
  rw[h1,aO (show i<=16777216 by lia)];rfl
 show(((place (.ofNat i) l.length).bind fun k=>l[k]?).map V.d)=_
 rw[hp];show(l[i]?).map V.d=_
 rw[h];rfl
theorem item_tup{l:List D}{i:Nat}{x:D}{Γ:ag}(h:l[i]?=some x)(hl:l.length<=1000000):cF Γ (.d (.tup l)) (.d (.int (.ofNat i)))=some (.d x):=by
 have hi:i<l.length:=(N3.mp h).1;have h1:OI i l.length=true:=O4.mpr hi;have hp:place (.ofNat i) l.length=some i:=by
  show cond (OI i l.length&&ay i) _ _=_
  rw[h1,aO (show i<=16777216 by lia)];rfl
 show(((place (.ofNat i) l.length).bind fun k=>l[k]?).map V.d)=_
 rw[hp];show(l[i]?).map V.d=_
 rw[h];rfl
theorem eP{T:Tab}{O:aL}{m:Md}{ρ ρ1 ρ2:aq}{Γ Γ1 Qp S8:ag}{a i:Ex}{x y v:V}{p:Nat}(h1:a.ev O m T ρ Γ = .ok x ρ1 Γ1)(h2:i.ev O m T ρ1 Γ1 = .ok y ρ2 Qp)(h3:ku Qp y v x=some S8):(Ex.sub a i p).bC O m T v ρ Γ = .ok () ρ2 S8:=br h1 (br h2 (eG h3 rfl))
theorem oz{T:Tab}{O:aL}{ρ ρ1:aq}{Γ Γ1:ag}{b h:av}{C:Ex}{i ph p:Nat}{f:Fl}(h1:b.ex T O .free ρ Γ = .ok f ρ1 Γ1):(St.gQ b C i h ph p).ex T O .free ρ Γ = .ok f ρ1 Γ1:=bot h1 rfl
theorem cv{T:Tab}{O:aL}{m:Md}{ρ ρ1:aq}{Γ Γ1:ag}{f:Ex}{es:bf}{b:Bi}{vs:List V}{x:D}{p:Nat}(h1:es.ev O m T ρ Γ = .ok vs ρ1 Γ1)(h2:builtin b Γ1 vs=some x)(h3:b.calm=true):(Ex.gH b f es p).ev O m T ρ Γ = .ok (.d x) ρ1 Γ1:=br h1 (opt (by rw[h3,h2];rfl))
theorem CN{K:List (Tx×Tx)}{k v:Tx}(hl:K.length<=1001):zJ (.d (.str k)) (.d (.str v)) (.sd (aD K))=some (.sd (aD (aQ k v K))):=by
 show cond (ay ((aD K).length+1)) _ none=_
 rw[aO (by simp only[aD,Oe];exact ot ‹_›),aD,kU D.str];rfl
theorem l9{Γ:ag}{n:Nat}{K:List (Tx×Tx)}{k v:Tx}(h:bq Γ n=some (.sd (aD K)))(hl:K.length<=1001):ku Γ (.d (.str k)) (.d (.str v)) (.loc n)=some (Γ.set n (some (.sd (aD (aQ k v K))))):=vR h (CN hl)
theorem kC{l:List (Tx×D)}{k:Tx}{x:D}{Γ:ag}(h:bw k l=some x):cF Γ (.d (.bH l)) (.d (.str k))=some (.d x):=congrArg (Ru V.d) h
theorem gY{Γ:ag}{l:List D}(h:l.length<=16777216):builtin .len Γ [.d (.lst l)]=some (.int l.length):=by
 show cond (ay l.length) _ _=_
 rw[aO h];rfl
theorem len_str{Γ:ag}{l:Tx}(h:l.length<=16777216):builtin .len Γ [.d (.str l)]=some (.int l.length):=by
 show cond (ay l.length) _ _=_
 rw[aO h];rfl
theorem AQ{n:Nat}{X:Tx}{v2:Option V}: ∀(ds acc:List (Tx×Tx)) (pre:List D) (v4:Option V),acc.length+ds.length<=1000->pre.length+2 * ds.length<=1000->∃v4',
  bO (fun v ρ Γ=>((Ex.var 4 0).bC (calls TT FF n) .free (TG GJ) v ρ Γ).bind fun _ ρ Γ=>(I5.ak 3).wb.ex (TG GJ) (calls TT FF n) .free ρ Γ) (cQ (.ofNat pre.length) (.ofNat 2) ds.length) [some (.d (.str X)),some (.d (.lst (pre++(flat ds).map .str))),v2,some (.loc 0),v4] [some (.sd (aD acc))]
   = .ok .next [some (.d (.str X)),some (.d (.lst (pre++(flat ds).map .str))),v2,some (.loc 0),v4'] [some (.sd (aD (putAll acc ds)))]:=by
 intro z_
 induction z_ with
 |nil=>
  exact fun acc pre v4 _ _=>⟨v4,rfl⟩
 |cons d ds ih_=>
  intro acc pre v4 h1 h2;have hl:=ej (k:=d.1) (v:=d.2) (l:=acc);obtain⟨v4',ih⟩:=ih_ (aQ d.1 d.2 acc) (pre++[.str d.1,.str d.2]) (some (.d (.int (.ofNat pre.length)))) (by simp only[N6] at h1;exact bX hl h1) (by simp only[N6,N1,Pk] at h2 ⊢;exact ba h2)
  have hap:(pre++[.str d.1,.str d.2])++(flat ds).map .str=pre++(flat (d::ds)).map .str:=by simp[fy,eZ]
  rw[hap,N1] at ih;refine⟨v4',bW (ρ1:=[some (.d (.str X)),some (.d (.lst (pre++(flat (d::ds)).map .str))),v2,some (.loc 0),some (.d (.int (.ofNat pre.length)))]) (Γ1:=[some (.sd (aD (aQ d.1 d.2 acc)))]) ?_ (Eq.trans (congrArg (fun z=>bO _ (cQ z _ _) _ _) (show OO pre.length+OO 2=OO (pre.length+2) from rfl)) ih)⟩
  have hlen:(pre++(flat (d::ds)).map D.str).length<=1000:=by
   simp only[N1,Oe,hJ,N6] at h2 ⊢;assumption
  refine af (bo (v := .d (.str d.2)) (aM (v := .d (.int (.ofNat (pre.length+1)))) rfl rfl (bB (by simp[fy,eZ]) (bg ‹_›))) (eP rfl (aM (w := .d (.str d.1)) rfl rfl (bB (by simp[fy,eZ]) (bg ‹_›))) ?_)) rfl
  exact l9 rfl (ba h1)
theorem kQ : ∀(ds acc:List (Tx×Tx)),(putAll acc ds).length<=acc.length+ds.length
 | [],acc=>by simp[putAll]
 |d::ds,acc=>by
  have h1:=kQ ds (aQ d.1 d.2 acc);have h2:=ej (k:=d.1) (v:=d.2) (l:=acc);simp only[putAll,RE,N6] at h1 ⊢;exact bX h2 h1
theorem jb : ∀(ds acc:List (Tx×Tx)),(acc.map Oq).Nodup->((putAll acc ds).map Oq).Nodup
 | [],acc,h=>h
 |d::ds,acc,h=>jb ds _ (mP h)
theorem AI{r:List Ch}{ds:List (Tx×Tx)}(h:gK r)(hf:(ax r).length<=1000)(hr:r.map (fun c=>c.2.1)=flat ds)(hd:ds.length<=400)(n:Nat):calls TT FF (n+7) true 26 [.d (.str (ax r))] [] = .ok (.d (.bH (aD (putAll [] ds)))) [none]:=by
 have hrl:r.length<=900:=by
  have:=congrArg Qs hr;rw[Oe,hJ] at this;exact bX (cb this) (eR 2 hd)
 have h20:=LZ h (aO (bg ‹_›)) hrl n;have hm:(r.map fun c=>D.str c.2.1)=(flat ds).map .str:=by rw[<-hr,Pc];rfl
 rw[hm] at h20;obtain⟨v4',hlp⟩:=AQ (n:=n+6) (X:=ax r) (v2:=none) ds [] [] none (by simp;exact bg ‹_›) (by simp;exact ba (eR 2 hd))
 have hlen:((flat ds).map D.str).length=2 * ds.length:=by rw[Oe,hJ]
 refine aH (f:=Mine.AQ) rfl rfl (aR (ρ:=[some (.d (.str (ax r))),some (.d (.lst ((flat ds).map .str))),none,some (.d (.bH (aD (putAll [] ds)))),v4']) ?_)
 refine af (ρ1:=[some (.d (.str (ax r))),some (.d (.lst ((flat ds).map .str))),none,none,none]) (Γ1:=[]) (oz (af (aW (ρ1:=[some (.d (.str (ax r))),none,none,none,none]) (az (vs:=[.d (.str (ax r))]) (ad:=300) rfl rfl rfl (aN rfl h20) rfl)) rfl)) ?_
 refine af (ρ1:=[some (.d (.str (ax r))),some (.d (.lst ((flat ds).map .str))),none,none,none]) (Γ1:=[]) (aw (aY (bc (r:=false) (aC (x := .int ((flat ds).map D.str).length) ?_ rfl rfl) rfl ?_) rfl) rfl) ?_
 ·exact cv rfl (gY (by rw[hlen];exact ba (eR 2 hd))) rfl
 ·show some (gw (OF (((flat ds).map D.str).length:Int) 2) 1)=some false
  rw[hlen];have:OF ((2 * ds.length:Nat):Int) 2=0:=by rw[Int.fmod_eq_emod_of_nonneg _ (by decide),Int.natCast_mul];exact Int.mul_emod_right 2 _
  rw[this];rfl
 refine af (ρ1:=[some (.d (.str (ax r))),some (.d (.lst ((flat ds).map .str))),none,some (.loc 0),none]) (Γ1:=[some (.sd [])]) rfl ?_
 refine af (cJ (v := .d (.eF (.ofNat 0) (.ofNat ((flat ds).map D.str).length) (.ofNat 2))) (ρ1:=[some (.d (.str (ax r))),some (.d (.lst ((flat ds).map .str))),none,some (.loc 0),none]) (Γ1:=[some (.sd [])]) ?_ (vs:=cQ (.ofNat 0) (.ofNat 2) ds.length) ?_ hlp) ?_
 ·refine cv (aj rfl (aj (cv rfl (gY (by rw[hlen];exact ba (eR 2 hd))) rfl) rfl)) ?_ rfl
  rfl
 ·rw[hlen]
  show cond (ay 0&&ay (2 * ds.length)&&ay 1) _ _=_
  rw[aO (show 2 * ds.length<=16777216 by lia),show(2 * ds.length-0+1)/(1+1)=ds.length from Nat.mul_add_div (P5 1) ds.length 1]
  rfl
 ·exact aG rfl
noncomputable def dR:List (Tx×Tx×Tx×Tx):=[([97],[97],[97],[123,97,125]),([98],[98],[98],[34,98,34]),([],[123,125],[123,125],[34,34]),([97,32,98],[123,97,32,98,125],[123,97,32,98,125],[97,92,32,98]),([35],[123,35,125],[35],[92,35]),([125],[92,125],[92,125],[34,125,34]),([49],[49],[49],[92,54,49]),([98,97],[98,97],[98,97],[92,120,54,50,97]),([98,35,97],[98,35,97],[98,35,97],[34,98,35,97,34])]
noncomputable abbrev iL(a:Tx×Tx×Tx×Tx):D := .tup [.str a.1,.str a.2.1,.str a.2.2.1,.str a.2.2.2]
theorem Ji(n:Nat):calls TT FF (n+1) true 39 [] [] = .ok (.d (.lst (dR.map iL))) []:=by kernel_rfl
theorem vV : ∀a∈dR,(a.1,a.2.1)∈oR/\(a.1,a.2.2.1)∈oR/\(a.1,a.2.2.2)∈oR/\a.2.1.length<=7/\a.2.2.1.length<=7/\a.2.2.2.length<=7:=by decide
theorem lC : ∀{r:List Ch} {c:Ch},gK r->c.1∈rN->c.2∈oR->(r≠[]->c.1≠[])->gK (r++[c])
 | [],c,_,h1,h2,_=>⟨h1,h2,by simp,trivial⟩
 |b::r,c,⟨g1,g2,g3,g4⟩,h1,h2,h3=>by
  refine⟨g1,g2,fun x hx => ?_,lC g4 h1 h2 fun _=>h3 (by simp)⟩
  rcases Qq.mp hx with h | h
  ·exact g3 x h
  ·simp only[N7,Ou,or_false] at h;subst h;exact h3 (by simp)
theorem nh : ∀(r s:List Ch),ax (r++s)=ax r++ax s
 | [],s=>rfl
 |c::r,s=>by simp only[QG,jU,jR,nh r s,Oh]
theorem rU : ∀(r s:List (Tx×Tx)),flat (r++s)=flat r++flat s
 | [],s=>rfl
 |c::r,s=>by simp only[QG,fy,eZ,rU r s]
theorem vu(a x y:List (Tx×Tx)):putAll a (x++y)=putAll (putAll a x) y:=by simp[putAll]
theorem fe{T:Tab}{O:aL}{m:Md}{ρ ρ1:aq}{Γ Γ1:ag}{p:Nat}{k:Nat}{q:Bool}{es:bf}{fa:Ex}{ad:Addr}{vs:List V}{r:RG}{z:Res V}(h1:fa.ev O m T ρ Γ = .ok (.d (.val (.ref ad))) ρ Γ)(h2:es.ev O m T ρ Γ = .ok vs ρ1 Γ1)(h3:(OI k T.fa.length&&I' ad (T.fa.getD k 0))=true)(h4:d4 O m k q vs Γ1=r)(h5:r.res ρ1=z):
  (Ex.call k fa q es p).ev O m T ρ Γ=z:=br h1 (br h2 (jf h3 ((congrArg (RG.res ρ1) h4).trans h5)))
theorem add_str{a b:Tx}(h:a.length+b.length<=16777216):gZ .Add (.str a) (.str b)=some (.str (a++b)):=by
 show cond (ay _) _ _=_
 rw[aO h];rfl
theorem fF{T:Tab}{O:aL}{m:Md}{ρ:aq}{Γ Γ1:ag}{i p:Nat}{v:V}{x:D}(h1:ρ[i]?=some (some v))(h2:Mine.jL Γ v=some (x,Γ1)):(Ex.jL i p).ev O m T ρ Γ = .ok (.d x) (ρ.set i (some (.d x))) Γ1:=eG (by rw[h1];rfl) (eG h2 rfl)
theorem cx(z:Int)(k:Nat): ∃i,OF z (.ofNat (k+1)) = .ofNat i/\i<k+1:=by
 have h1:=Int.fmod_nonneg_of_pos z (show(0:Int) < .ofNat (k+1) from Qo.mpr (P5 k))
 have h2:=Int.fmod_lt_of_pos z (show(0:Int) < .ofNat (k+1) from Qo.mpr (P5 k))
 refine⟨(OF z (.ofNat (k+1))).toNat,(UQ h1).symm,?_⟩
 have:((OF z (.ofNat (k+1))).toNat:Int) < .ofNat (k+1):=by rw[UQ h1];exact h2
 exact Qo.mp this
theorem JA{P:Nat->Prop}(h0:P 0)(h1:P 1)(h2:P 2)(h3:P 3)(h4:P 4): ∀i,i<4+1->P i
 |0,_=>h0 | 1,_=>h1 | 2,_=>h2 | 3,_=>h3 | 4,_=>h4 | _+5,h=>absurd h (Tj.mpr (Qa ..))
theorem KO{P:Nat->Prop}(h0:P 0)(h1:P 1)(h2:P 2): ∀i,i<2+1->P i
 |0,_=>h0 | 1,_=>h1 | 2,_=>h2 | _+3,h=>absurd h (Tj.mpr (Qa ..))
theorem KZ{P:Nat->Prop}(h0:P 0)(h1:P 1)(h2:P 2)(h3:P 3)(h4:P 4)(h5:P 5)(h6:P 6)(h7:P 7): ∀i,i<7+1->P i
 |0,_=>h0 | 1,_=>h1 | 2,_=>h2 | 3,_=>h3 | 4,_=>h4 | 5,_=>h5 | 6,_=>h6 | 7,_=>h7 | _+8,h=>absurd h (Tj.mpr (Qa ..))
theorem DA(z:Int)(Γ:ag): ∃a∈dR,∃w,cF Γ (.d (.lst [.int 0,.int 3,.int 4,.int 7,.int 8])) (.d (.int (OF z (.ofNat 5))))=some w/\cF Γ (.d (.lst (dR.map iL))) w=some (.d (iL a)):=by
 obtain⟨i,h,hi⟩:=cx z 4;rw[h];exact JA (P:=fun i => ∃a∈dR,∃w,cF Γ (.d (.lst [.int 0,.int 3,.int 4,.int 7,.int 8])) (.d (.int (.ofNat i)))=some w/\cF Γ (.d (.lst (dR.map iL))) w=some (.d (iL a))) ⟨([97],[97],[97],[123,97,125]),by decide,_,rfl,rfl⟩ ⟨([97,32,98],[123,97,32,98,125],[123,97,32,98,125],[97,92,32,98]),by decide,_,rfl,rfl⟩ ⟨([35],[123,35,125],[35],[92,35]),by decide,_,rfl,rfl⟩ ⟨([98,97],[98,97],[98,97],[92,120,54,50,97]),by decide,_,rfl,rfl⟩ ⟨([98,35,97],[98,35,97],[98,35,97],[34,98,35,97,34]),by decide,_,rfl,rfl⟩ i hi
theorem C4(z:Int)(Γ:ag): ∃a∈dR,cF Γ (.d (.lst (dR.map iL))) (.d (.int (OF z (.ofNat 9))))=some (.d (iL a)):=by
 obtain⟨i,h,hi⟩:=cx z 8;have hl:i<dR.length:=hi;refine⟨dR[i],PB hl,?_⟩
 rw[h];refine bB ?_ (by decide)
 rw[Oc,N8 hl];rfl
structure uI(r:List Ch)(ds:List (Tx×Tx))(v2:V)(Γ:ag):Prop where
 ok:gK r
 fl:r.map (fun c=>c.2.1)=flat ds
 at_ : ∀d∈ds,d.1∈dR.map (·.1)/\d.2∈dR.map (·.1)
 len:(ax r).length<=20 * ds.length
 ne:ds≠[]->ax r≠[]
 fz:Mine.jL Γ v2=some (.lst ((putAll [] ds).map bx),[none])
noncomputable abbrev vZ:av:=(EL.ak 5).wb
noncomputable abbrev qm(c0 z:Int)(w:Tx)(v2:V)(v4:Option V)(a b:Tx×Tx×Tx×Tx):aq:=[some (.d (.int c0)),some (.d (.str w)),some v2,some (.d (.int z)),v4,some (.d (iL a)),some (.d (iL b))]
theorem fm{a b:Tx}{m k:Nat}(ha:a.length<=m)(hb:b.length<=k):(a++b).length<=m+k:=by rw[N1];exact QA ha hb
theorem fG{a b:Tx}{m k:Nat}(ha:a.length<=m)(hb:b.length<=k)(h:m+k<=16777216):gZ .Add (.str a) (.str b)=some (.str (a++b)):=add_str (N0 (QA ha hb) h)
inductive tN(ds:List (Tx×Tx))(a b:Tx)(r':List Ch):Prop
 |mk (ok:gK r') (fl:r'.map (fun c=>c.2.1)=flat (ds++[(a,b)])) (len:(ax r').length<=20 * (ds.length+1)) (ne:ax r'≠[])
section draw
variable{n:Nat}{c0 z:Int}{r:List Ch}{ds:List (Tx×Tx)}{v2:V}{Γ:ag}{v4 v5 v6:Option V}{a b:Tx×Tx×Tx×Tx}{k m s1 s2 x y:Tx}
theorem i9:ax (r++[(s1,(k,x))]++[(s2,(m,y))])=(((ax r++s1)++x)++s2)++y:=by
 rw[nh,nh];show(ax r++(s1++(x++[])))++(s2++(y++[]))=_
 rw[OE,OE,Oh,Oh,Oh,Oh,Oh]
theorem pd(I:uI r ds v2 Γ)(h1:s1∈rN)(hx:(k,x)∈oR)(h2:s2∈rN)(hy:(m,y)∈oR)(n1:r≠[]->s1≠[])(n2:s2≠[])(l1:s1.length<=2)(lx:x.length<=7)(l2:s2.length<=1)(ly:y.length<=7):tN ds k m (r++[(s1,(k,x))]++[(s2,(m,y))]):=by
 refine⟨lC (lC I.ok h1 hx n1) h2 hy fun _=>n2,?_,?_,?_⟩
 ·rw[OM,OM,I.fl,rU,Oh];rfl
 ·rw[i9]
  exact N0 (fm (fm (fm (fm I.len l1) lx) l2) ly) (by rw[Nat.mul_succ];exact UN (show 2+7+1+7<=20 by decide) _)
 ·rw[i9,Oh]
  intro q;exact n2 (TV.mp (TV.mp q).2).1
inductive GB(n:Nat)(c0 z:Int)(v2:V)(v4:Option V)(a b:Tx×Tx×Tx×Tx)(r:List Ch)(ds:List (Tx×Tx))(Γ:ag):Prop
 |mk (r':List Ch) (e:((EL.ak 5).wb.ak 2).ex (TG rB) (calls TT FF (n+1)) .free (qm c0 z (ax r) v2 v4 a b) Γ = .ok .next (qm c0 z (ax r') v2 v4 a b) Γ) (h:tN ds a.1 b.1 r')
theorem DS(I:uI r ds v2 Γ)(hd:ds.length<=100)(ha:a∈dR)(hb:b∈dR):GB n c0 z v2 v4 a b r ds Γ:=by
 obtain⟨a1,a2,a3,a4,a5,a6⟩:=vV a ha;obtain⟨b1,b2,b3,b4,b5,b6⟩:=vV b hb;have hlen:(ax r).length<=2000:=N0 I.len (R3 20 hd);have hcmp:(Te.val (.cmp .Eq (.bin .Mod (.bin .FloorDiv (.var 0 0) (.int 8 0) 0) (.int 2 0) 0) (.int 0 0) 0)).ev (calls TT FF (n+1)) .free (TG rB) (qm c0 z (ax r) v2 v4 a b) Γ = .ok (gw (OF (Om c0 (.ofNat 8)) (.ofNat 2)) (.ofNat 0)) (qm c0 z (ax r) v2 v4 a b) Γ:=
  aY (bc (aC (aC rfl rfl rfl) rfl rfl) rfl rfl) rfl
 cases hs:gw (OF (Om c0 (.ofNat 8)) (.ofNat 2)) (.ofNat 0) with
 |false=>
  rw[hs] at hcmp;refine⟨_,aw hcmp (af (aW (ρ1:=qm c0 z (ax r) v2 v4 a b) (Γ1:=Γ) (v := .d (.str ((((ax r++[32,9])++a.2.2.2)++[10])++b.2.2.2))) ?_) (by rw[<-i9 (k:=a.1) (m:=b.1)];rfl)),pd (s1:=[32,9]) (s2:=[10]) I (by decide) a3 (by decide) b3 (fun _=>by decide) (by decide) (by decide) a6 (by decide) b6⟩
  have l1:=fm hlen (show([32,9]:Tx).length<=2 by decide)
  have l2:=fm l1 a6;exact aC (aC (aC (aC rfl rfl (fG (b:=[32,9]) hlen (k:=2) (by decide) (by decide))) (aM rfl rfl rfl) (fG (b:=a.2.2.2) l1 a6 (by decide))) rfl (fG (b:=[10]) l2 (k:=1) (by decide) (by decide))) (aM rfl rfl rfl) (y := .str b.2.2.2) (fG (fm l2 (k:=1) (by decide)) b6 (by decide))
 |true=>
  rw[hs] at hcmp;cases hraw:ax r with
  |nil=>
   have hd0:ds=[]:=Decidable.byContradiction fun q=>I.ne q hraw
   subst hd0;have hr0:r=[]:=List.map_eq_nil_iff.mp I.fl;subst hr0;refine⟨_,aV hcmp (af (aW (ρ1:=qm c0 z [] v2 v4 a b) (Γ1:=Γ) (v := .d (.str ((((ax []++[])++a.2.1)++[32])++b.2.2.1))) ?_) (by rw[<-i9 (k:=a.1) (m:=b.1)];rfl)),pd (s1:=[]) (s2:=[32]) I (by decide) a1 (by decide) b2 (fun q=>absurd rfl q) (by decide) (by decide) a4 (by decide) b5⟩
   exact aC (aC (aC (aC rfl (gM rfl rfl) (z := .str []) rfl) (aM rfl (gM rfl rfl) rfl) (fG (b:=a.2.1) (m:=0) (by decide) a4 (by decide))) rfl (fG (b:=[32]) (k:=1) a4 (by decide) (by decide))) (aM rfl rfl rfl) (y := .str b.2.2.1) (fG (fm a4 (k:=1) (by decide)) b5 (by decide))
  |cons ch tl=>
   rw[hraw] at hlen hcmp;have hn:r≠[]:=fun q=>by rw[q] at hraw;exact nomatch hraw
   refine⟨_,hraw▸aV hcmp (af (aW (ρ1:=qm c0 z (ch::tl) v2 v4 a b) (Γ1:=Γ) (v := .d (.str ((((ch::tl++[32])++a.2.2.1)++[32])++b.2.2.1))) ?_) (by rw[<-hraw,<-i9 (k:=a.1) (m:=b.1)];rfl)),pd (s1:=[32]) (s2:=[32]) I (by decide) a2 (by decide) b2 (fun _=>by decide) (by decide) (by decide) a5 (by decide) b5⟩
   have l1:=fm hlen (show([32]:Tx).length<=1 by decide)
   have l2:=fm l1 a5;exact aC (aC (aC (aC rfl (gV rfl rfl) (fG (b:=[32]) hlen (k:=1) (by decide) (by decide))) (aM rfl (gV rfl rfl) rfl) (fG (b:=a.2.2.1) l1 a5 (by decide))) rfl (fG (b:=[32]) l2 (k:=1) (by decide) (by decide))) (aM rfl rfl rfl) (y := .str b.2.2.1) (fG (fm l2 (k:=1) (by decide)) b5 (by decide))
end draw
theorem MG{n:Nat}{c0 z:Int}{r:List Ch}{ds:List (Tx×Tx)}{v2:V}{Γ:ag}{v4 v5 v6:Option V}(I:uI r ds v2 Γ)(hd:ds.length<=100):
  ∃r' d v5' v6',vZ.ex (TG rB) (calls TT FF (n+1)) .free [some (.d (.int c0)),some (.d (.str (ax r))),some v2,some (.d (.int z)),v4,v5,v6] Γ = .ok .next [some (.d (.int c0)),some (.d (.str (ax r'))),some (.d (.lst ((putAll [] (ds++[d])).map bx))),some (.d (.int (Om z (.ofNat 45)))),v4,v5',v6'] [none]
   /\uI r' (ds++[d]) (.d (.lst ((putAll [] (ds++[d])).map bx))) [none]:=by
 obtain⟨a,ha,w,ha1,ha2⟩:=DA z Γ;obtain⟨b,hb,hb1⟩:=C4 (Om z (.ofNat 5)) Γ;obtain⟨r',hx,g1,g2,g3,g4⟩:=DS (n:=n) (c0:=c0) (z:=z) (v4:=v4) I hd ha hb;have hpl:=kQ ds [];have h42:=MF n (ps:=putAll [] ds) (k:=a.1) (v:=b.1) (by simp at hpl;exact bg (N0 ‹_› ‹_›)) (jb ds [] (by simp))
 have hpa:putAll [] (ds++[(a.1,b.1)])=aQ a.1 b.1 (putAll [] ds):=by rw[vu];rfl
 refine⟨r',(a.1,b.1),some (.d (iL a)),some (.d (iL b)),?_,g1,g2,fun d hd => ?_,by rw[N1];exact g3,fun _=>g4,rfl⟩
 ·refine af (aW (v := .d (iL a)) (aM (az (vs:=[]) (ad:=688) rfl rfl rfl (aN rfl (Ji n)) rfl) (aM rfl (aC rfl rfl rfl) ha1) ha2)) ?_
  refine af (aW (v := .d (iL b)) (aM (az (vs:=[]) (ad:=688) rfl rfl rfl (aN rfl (Ji n)) rfl) (aC (aC rfl rfl rfl) rfl rfl) hb1)) ?_
  refine af hx ?_
  refine af (aW (ρ1:=qm c0 z (ax r') (.d (.lst ((putAll [] ds).map bx))) v4 a b) (Γ1:=[none]) (v := .d (.lst ((putAll [] (ds++[(a.1,b.1)])).map bx))) (fe (ad:=707) rfl (aj (fF rfl I.fz) (aj (aM rfl rfl rfl) (aj (aM rfl rfl rfl) rfl))) rfl (aN rfl h42) ?_)) ?_
  ·rw[hpa];rfl
  exact af (aW (aC rfl rfl rfl)) rfl
 ·rcases Qq.mp hd with h | h
  ·exact I.at_ d h
  ·rw[O7.mp h]
   exact⟨Ph ha,Ph hb⟩
theorem uJ{n:Nat}{c0:Int}: ∀(k j:Nat) (z:Int) (r:List Ch) (ds:List (Tx×Tx)) (v2:V) (Γ:ag) (v4 v5 v6:Option V),uI r ds v2 Γ->ds.length+k<=100->
  ∃r' ds' v2' Γ' z' v4' v5' v6',bO (fun v ρ Γ=>((Ex.var 4 0).bC (calls TT FF (n+1)) .free (TG rB) v ρ Γ).bind fun _ ρ Γ=>vZ.ex (TG rB) (calls TT FF (n+1)) .free ρ Γ) (cQ (.ofNat j) (.ofNat 1) k) [some (.d (.int c0)),some (.d (.str (ax r))),some v2,some (.d (.int z)),v4,v5,v6] Γ
   = .ok .next [some (.d (.int c0)),some (.d (.str (ax r'))),some v2',some (.d (.int z')),v4',v5',v6'] Γ'/\uI r' ds' v2' Γ'/\ds'.length=ds.length+k:=by
 intro z_
 induction z_ with
 |zero=>
  exact fun j z r ds v2 Γ v4 v5 v6 I h=>⟨r,ds,v2,Γ,z,v4,v5,v6,rfl,I,rfl⟩
 |succ k ih_=>
  intro j z r ds v2 Γ v4 v5 v6 I h;obtain⟨r',d,v5',v6',h1,h2⟩:=MG (n:=n) (c0:=c0) (z:=z) (v4:=some (.d (.int (.ofNat j)))) (v5:=v5) (v6:=v6) I (ba h);obtain⟨r2,ds2,v2',Qp,z2,v42,v52,v62,h3,h4,h5⟩:=ih_ (j+1) _ r' _ _ _ (some (.d (.int (.ofNat j)))) v5' v6' h2 (by simp;exact ba h)
  exact⟨r2,ds2,v2',Qp,z2,v42,v52,v62,bW h1 h3,h4,by simp at h5;exact E9 h5⟩
noncomputable def pR:Tx:=[97,32,49,32,98]
noncomputable def vP:D := .tup [.int 1,.str [109,105,115,115,105,110,103,32,118,97,108,117,101,32,116,111,32,103,111,32,119,105,116,104,32,107,101,121],.tup [.str [84,67,76],.str [86,65,76,85,69],.str [68,73,67,84,73,79,78,65,82,89]]]
noncomputable def pB:Tx:=[97,32,49,32,98,32,123]
noncomputable def vb:D := .tup [.int 1,.str [117,110,109,97,116,99,104,101,100,32,111,112,101,110,32,98,114,97,99,101,32,105,110,32,100,105,99,116],.tup [.str [84,67,76],.str [86,65,76,85,69],.str [68,73,67,84,73,79,78,65,82,89],.str [66,82,65,67,69]]]
inductive Drawn:Tx->D->Prop
 |pR:Drawn pR vP
 |pB:Drawn pB vb
 |good(r:List Ch)(ds:List (Tx×Tx)):gK r->r.map (fun c=>c.2.1)=flat ds->(∀d∈ds,d.1∈dR.map (·.1)/\d.2∈dR.map (·.1))->(ax r).length<=80->ds.length<=4->Drawn (ax r) (.lst ((putAll [] ds).map bx))
theorem Nk(n:Nat)(c0:Int): ∃raw P Γ,calls TT FF (n+2) true 44 [.d (.int c0)] [] = .ok (.d (.tup [.str raw,P])) Γ/\Drawn raw P:=by
 obtain⟨i,hi,hlt⟩:=cx c0 7;have hc : ∀(j:Nat) ρ Γ,(Te.val (.cmp .Eq (.bin .Mod (.var 0 0) (.int 8 0) 0) (.int (.ofNat j) 0) 0)).ev (calls TT FF (n+1)) .free (TG rB) (some (.d (.int c0))::ρ) Γ = .ok (I' i j) (some (.d (.int c0))::ρ) Γ:=
  fun j ρ Γ=>aY (bc (aC rfl rfl rfl) rfl (by show some (gw (OF c0 (.ofNat 8)) _)=_;rw[hi];rfl)) rfl
 by_cases h1:i=1
 ·subst h1
  exact⟨pR,vP,_,aH (f:=Mine.uJ) rfl rfl (aR (aG (aV (hc 1 _ _) rfl))),.pR⟩
 have e1:I' i 1=false:=by cases q:I' i 1 with | false=>rfl | true=>exact absurd (N2 q) h1
 by_cases h2:i=2
 ·subst h2
  exact⟨pB,vb,_,aH (f:=Mine.uJ) rfl rfl (aR (af (aw (hc 1 _ _) rfl) (aG (aV (hc 2 _ _) rfl)))),.pB⟩
 have e2:I' i 2=false:=by cases q:I' i 2 with | false=>rfl | true=>exact absurd (N2 q) h2
 obtain⟨k,hk,hk5⟩:=cx (Om c0 (.ofNat 16)) 4;obtain⟨r',ds',v2',Γ',z',v4',v5',v6',h3,I,h5⟩:=uJ (n:=n) (c0:=c0) k 0 (Om c0 (.ofNat 80)) [] [] (.loc 0) [some (.list [])] none none none ⟨trivial,rfl,by simp,by simp[jU,jR],by simp,rfl⟩ (by simp;exact bg (Oy ‹_›))
 simp only[Pk,Ql] at h5;have hl:=I.len;refine⟨ax r',_,[none],aH (f:=Mine.uJ) rfl rfl (aR (ρ:=[some (.d (.int c0)),some (.d (.str (ax r'))),some (.d (.lst ((putAll [] ds').map bx))),some (.d (.int z')),v4',v5',v6']) ?_),.good r' ds' I.ok I.fl I.at_ (bX I.len (eR 20 (N0 (cb h5) (Vn hk5)))) (bX (cb h5) hk5)⟩
 refine af (aw (e1▸hc 1 [none,none,none,none,none,none] []) rfl) ?_
 refine af (aw (e2▸hc 2 [none,none,none,none,none,none] []) rfl) ?_
 refine af (ρ1:=[some (.d (.int c0)),some (.d (.str [])),none,none,none,none,none]) (Γ1:=[]) rfl ?_
 refine af (ρ1:=[some (.d (.int c0)),some (.d (.str [])),some (.loc 0),none,none,none,none]) (Γ1:=[some (.list [])]) rfl ?_
 refine af (ρ1:=[some (.d (.int c0)),some (.d (.str [])),some (.loc 0),some (.d (.int (Om c0 (.ofNat 80)))),none,none,none]) (Γ1:=[some (.list [])]) rfl ?_
 refine af (cJ (v := .d (.eF 0 (OF (Om c0 (.ofNat 16)) (.ofNat 5)) 1)) rfl (vs:=cQ (.ofNat 0) (.ofNat 1) k) ?_ h3) ?_
 ·rw[hk]
  exact JA (P:=fun k=>dm (.d (.eF 0 (.ofNat k) 1))=some (cQ (.ofNat 0) (.ofNat 1) k)) rfl rfl rfl rfl rfl k hk5
 ·exact aG (bP (d5 (aj rfl (aj (fF rfl I.fz) rfl)) rfl rfl))
end Mine.Pl
namespace Mine
noncomputable def St.ft:St->Ex
 | .kz t _ _ _=>t
 |_ => .none 0
end Mine
namespace Mine.Pl
noncomputable def jr(b:Bool)(x:Tx):Tx:=match dR.find? (fun a=>ao a.1 x) with
 |some a=>cond b a.2.1 a.2.2.1
 |none=>[]
noncomputable def RG.val:RG->Option V
 | .ok v _=>some v
 |_=>none
theorem RG.val_eq{r:RG}{v:V}(h:RG.val r=some v): ∃Γ,r = .ok v Γ:=by
 cases r with
 |ok u Γ=>exact⟨Γ,congrArg (RG.ok · Γ) (j' h)⟩
 |_=>exact aE h
noncomputable def rm(r:RG)(x:Tx):Bool:=fP ((RG.val r).bind fun v=>v.d?.bind fun d=>d.ck.map fun y=>ao y x)
theorem D4{r:RG}{x:Tx}(h:rm r x=true): ∃Γ,r = .ok (.d (.str x)) Γ:=by
 obtain⟨v,h1,h⟩:=ai (cK h);obtain⟨d,h2,h⟩:=ai h;obtain⟨y,h3,h4⟩:=aJ h;obtain⟨G,rfl⟩:=RG.val_eq h1;obtain rfl:=V.cf h2;obtain rfl:=D.cC h3;exact⟨G,by rw[bG h4]⟩
theorem IF(n:Nat):(dR.all fun a=>[true,false].all fun b=>rm (calls TT FF (n+3) true 23 [.d (.str a.1),.d (.bool b)] []) (jr b a.1))=true:=by kernel_rfl
noncomputable abbrev atT:List Tx:=dR.map (·.1)
theorem Lu(n:Nat){x:Tx}(hx:x∈atT)(b:Bool): ∃Γ,calls TT FF (n+3) true 23 [.d (.str x),.d (.bool b)] [] = .ok (.d (.str (jr b x))) Γ:=by
 have h:=IF n;rw[OV] at h;obtain⟨a,ha,rfl⟩:=Q2.mp hx;have h:=h a ha;rw[OV] at h;exact D4 (h b (by cases b<;>simp))
noncomputable def outs:Nat->List Tx->List Tx
 |_,[]=>[]
 |m,x::r=>jr (I' m 0) x::outs (m+1) r
theorem zb : ∀(x y:List Tx) (m:Nat),outs m (x++y)=outs m x++outs (m+x.length) y
 | [],y,m=>rfl
 |a::x,y,m=>by simp only[QG,outs,zb x y,N6];rw[show m+1+x.length=m+(x.length+1) from O2 m x.length]
theorem nQ : ∀(x:List Tx) (m:Nat),(outs m x).length=x.length
 | [],_=>rfl
 |a::x,m=>by simp only[outs,N6,nQ x]
theorem Ca : ∀b,∀x∈atT,(jr b x).length<=7:=by decide
theorem nf : ∀(x:List Tx) (m:Nat),(∀y∈x,y∈atT)->∀z∈outs m x,z.length<=7
 | [],_,_,z,hz=>by simp[outs] at hz
 |a::x,m,h,z,hz=>by
  simp only[outs,N7] at hz;rcases hz with rfl | hz
  ·exact Ca _ a (h a (by simp))
  ·exact nf x (m+1) (fun y hy=>h y (by simp[hy])) z hz
theorem nT : ∀(xs:List Tx),(∀z∈xs,z.length<=7)->(bU [32] xs).length<=8 * xs.length
 | [],_=>by simp[eI,eO,eN]
 | [x],h=>by have:=h x (by simp);simp[eI,eO,eN];exact bg ‹_›
 |x::y::r,h=>by
  have h1:=h x (by simp)
  have h2:=nT (y::r) (fun z hz=>h z (QN _ hz))
  simp only[eI,eO,eN,N1,N6,Pk] at h2 ⊢;exact bX h2 h1
theorem kE : ∀l:List Tx,strsOf (l.map .str)=some l
 | []=>rfl
 |x::r=>by simp only[Oa,strsOf,kE r,OD]
theorem tW{T:Tab}{O:aL}{m:Md}{ρ:aq}{Γ:ag}{i n p p0 p1 p2:Nat}{xs:List Tx}(h1:ρ[i]?=some (some (.loc n)))(h2:bq Γ n=some (.list (xs.map .str)))(h3:(bU [32] xs).length<=1000):(Ex.jz (.str [32] p0) .join (.cons (.var i p) .nil) p1 p2).ev O m T ρ Γ = .ok (.d (.str (bU [32] xs))) ρ Γ:=by
 have hf:ay ((bU [32] xs).length+[32].length)=true:=aO (by simp;exact bg ‹_›)
 refine jH (x := .d (.str [32])) rfl rfl (aj (sZ h1) rfl) ?_
 show((bq Γ n).bind Mu.gm).bind _=_
 rw[h2];show(strsOf (xs.map .str)).bind _=_
 rw[kE];show cond (ay ((bU [32] xs).length+[32].length)) _ _=_
 rw[hf];rfl
theorem AZ{n:Nat}{v0:Option V}: ∀(xs:List Tx) (out:List Tx) (v2:Option V),(∀x∈xs,x∈atT)->out.length+xs.length<=1000->∃v2',
  bO (fun v ρ Γ=>((Ex.var 2 0).bC (calls TT FF (n+3)) .free (TG EA) v ρ Γ).bind fun _ ρ Γ=>(Jw.ak 1).wb.ex (TG EA) (calls TT FF (n+3)) .free ρ Γ) (xs.map fun x => .d (.str x)) [v0,some (.loc 0),v2] [some (.list (out.map .str))]
   = .ok .next [v0,some (.loc 0),v2'] [some (.list ((out++outs out.length xs).map .str))]:=by
 intro z_
 induction z_ with
 |nil=>
  exact fun out v2 _ _=>⟨v2,by simp only[outs,OE];rfl⟩
 |cons x xs ih_=>
  intro out v2 h hl;obtain⟨v2',ih⟩:=ih_ (out++[jr (I' out.length 0) x]) (some (.d (.str x))) (fun y hy=>h y (by simp[hy])) (by simp only[N1,N6,Pk] at hl ⊢;exact ba hl)
  obtain⟨Y7,hq⟩:=Lu n (h x (by simp)) (I' out.length 0)
  have hlm:(out.map D.str).length=out.length:=by simp
  simp only[N6] at hl;refine⟨v2',bW (ρ1:=[v0,some (.loc 0),some (.d (.str x))]) (Γ1:=[some (.list ((out++[jr (I' out.length 0) x]).map .str))]) ?_ (ih.trans ?_)⟩
  ·refine af (dw (l:=out.map .str) (ρ1:=[v0,some (.loc 0),some (.d (.str x))]) (Γ1:=[some (.list (out.map .str))]) (x := .str (jr (I' out.length 0) x)) rfl rfl (az (vs:=[.d (.str x),.d (.bool (I' out.length 0))]) (ad:=322) rfl (aj rfl (aj (bc (u := .d (.int out.length)) (cv rfl ?_ rfl) rfl rfl) rfl)) rfl (aN rfl hq) rfl) rfl (aO (by rw[hlm];exact ba hl))) ?_
   ·show cond (ay (out.map D.str).length) _ _=_
    rw[aO (by rw[hlm];exact ba hl),hlm];rfl
   ·simp only[OM];rfl
  ·simp only[outs,Oh,N1,N6,Pk];rfl
theorem Lc(n:Nat){xs:List Tx}(h : ∀x∈xs,x∈atT)(hl:xs.length<=100):calls TT FF (n+4) true 24 [.d (.lst (xs.map .str))] [] = .ok (.d (.str (bU [32] (outs 0 xs)))) [some (.list ((outs 0 xs).map .str))]:=by
 obtain⟨v2',hlp⟩:=AZ (n:=n) (v0:=some (.d (.lst (xs.map .str)))) xs [] none h (by simp;exact bg ‹_›)
 have hj:=nT _ (nf xs 0 h);rw[nQ] at hj;refine aH (f:=Mine.AZ) rfl rfl (aR (ρ:=[some (.d (.lst (xs.map .str))),some (.loc 0),v2']) ?_)
 refine af (ρ1:=[some (.d (.lst (xs.map .str))),some (.loc 0),none]) (Γ1:=[some (.list [])]) rfl ?_
 refine af (cJ (v := .d (.lst (xs.map .str))) rfl (vs:=xs.map fun x=>V.d (.str x)) ?_ hlp) ?_
 ·exact gy
 ·exact aG (bP (tW rfl rfl (N0 hj (ba (eR 8 hl)))))
theorem kO{k v:Tx}: ∀{ps:List (Tx×Tx)},(ps.map Oq).Nodup->(k,v)∈ps->bw k (aD ps)=some (.str v)
 | [],_,h=>by simp at h
 |p::r,hn,h=>by
  simp only[Oa,Py] at hn;simp only[aD,Oa,eJ,eK];simp only[N7] at h;rcases h with rfl | h
  ·rw[dz];rfl
  ·have:ao k p.1=false:=by
    cases q:ao k p.1 with
    |false=>rfl
    |true=>exact absurd (bG q▸Ph (f:=Oq) h) hn.1
   rw[this,cond_false];exact kO hn.2 h
theorem Ah{n:Nat}{ps:List (Tx×Tx)}(hn:(ps.map Oq).Nodup): ∀(qs:List (Tx×Tx)) (out:List Tx) (v2:Option V),(∀q∈qs,q∈ps)->out.length+2 * qs.length<=1000->∃v2',
  bO (fun v ρ Γ=>((Ex.var 2 0).bC (calls TT FF n) .free (TG Ep) v ρ Γ).bind fun _ ρ Γ=>(Je.ak 1).wb.ex (TG Ep) (calls TT FF n) .free ρ Γ) (qs.map fun q => .d (.str q.1)) [some (.d (.bH (aD ps))),some (.loc 0),v2] [some (.list (out.map .str))]
   = .ok .next [some (.d (.bH (aD ps))),some (.loc 0),v2'] [some (.list ((out++flat qs).map .str))]:=by
 intro z_
 induction z_ with
 |nil=>
  exact fun out v2 _ _=>⟨v2,by simp only[fy,eZ,OE];rfl⟩
 |cons q qs ih_=>
  intro out v2 h hl;obtain⟨v2',ih⟩:=ih_ (out++[q.1,q.2]) (some (.d (.str q.1))) (fun y hy=>h y (by simp[hy])) (by simp only[N1,N6,Pk] at hl ⊢;exact ba hl)
  simp only[N6] at hl;have hlk:=kO (k:=q.1) (v:=q.2) hn (h q (by simp))
  refine⟨v2',bW (ρ1:=[some (.d (.bH (aD ps))),some (.loc 0),some (.d (.str q.1))]) (Γ1:=[some (.list ((out++[q.1,q.2]).map .str))]) ?_ (ih.trans ?_)⟩
  ·refine af (dw (l:=out.map .str) (ρ1:=[some (.d (.bH (aD ps))),some (.loc 0),some (.d (.str q.1))]) (Γ1:=[some (.list (out.map .str))]) (x := .str q.1) rfl rfl rfl rfl (aO (by simp;exact ba hl))) ?_
   refine af (dw (l:=out.map .str++[.str q.1]) (ρ1:=[some (.d (.bH (aD ps))),some (.loc 0),some (.d (.str q.1))]) (Γ1:=[some (.list (out.map .str++[.str q.1]))]) (x := .str q.2) rfl rfl (aM (u := .d (.bH (aD ps))) (v := .d (.str q.1)) rfl rfl ?_) rfl (aO (by simp;exact ba hl))) ?_
   ·exact kC hlk
   ·simp only[OM,Oh];rfl
  ·simp only[fy,eZ,Oh];rfl
theorem nu : ∀{ps:List (Tx×Tx)},(∀p∈ps,p.1∈atT/\p.2∈atT)->∀x∈flat ps,x∈atT
 | [],_,x,hx=>by simp[fy,eZ] at hx
 |p::r,h,x,hx=>by
  simp only[fy,eZ,N7] at hx;rcases hx with rfl | rfl | hx
  ·exact(h p (by simp)).1
  ·exact(h p (by simp)).2
  ·exact nu (fun q hq=>h q (by simp[hq])) x hx
theorem Gx(n:Nat){ps:List (Tx×Tx)}(hn:(ps.map Oq).Nodup)(h : ∀p∈ps,p.1∈atT/\p.2∈atT)(hl:ps.length<=40): ∃Γ,calls TT FF (n+5) true 27 [.d (.bH (aD ps))] [] = .ok (.d (.str (bU [32] (outs 0 (flat ps))))) Γ:=by
 obtain⟨v2',hlp⟩:=Ah (n:=n+4) hn ps [] none (fun q hq=>hq) (by simp;exact ba (eR 2 hl))
 have h24:=Lc n (nu h) (by rw[hJ];exact ba (eR 2 hl))
 refine⟨_,aH (f:=Mine.Ah) rfl rfl (aR (ρ:=[some (.d (.bH (aD ps))),some (.d (.lst ((flat ps).map .str))),v2']) (Γ:=[none]) ?_)⟩
 refine af (ρ1:=[some (.d (.bH (aD ps))),some (.loc 0),none]) (Γ1:=[some (.list [])]) rfl ?_
 refine af (cJ (v := .d (.bH (aD ps))) rfl (vs:=ps.map fun(x:Tx×Tx)=>V.d (D.str x.1)) ?_ hlp) ?_
 ·exact lB
 ·exact aG (bP (fe (ad:=329) rfl (aj (fF rfl rfl) rfl) rfl (aN rfl h24) rfl))
noncomputable abbrev GI:av:=((Aa.ak 1).wb.ak 0).wb
theorem K5(n:Nat)(Γ:ag)(a0 a1 a2 a3 a5:Option V): ∀a∈dR,(GI.ak 0).ex (TG xb) (calls TT FF (n+1)) .free [a0,a1,a2,a3,some (.d (.str a.1)),a5] Γ = .ok .next [a0,a1,a2,a3,some (.d (.str a.1)),some (.d (iL a))] Γ:=by
 intro a ha;simp only[dR,N7,Ou,or_false] at ha;rcases ha with rfl | rfl | rfl | rfl | rfl | rfl | rfl | rfl | rfl<;>kernel_rfl
theorem ES : ∀b,∀a∈dR,jr b a.1=cond b a.2.1 a.2.2.1:=by decide
theorem Jq{n:Nat}{x:Tx}{out:List Tx}{a0 a2 a3 a5:Option V}(hx:x∈atT)(hl:out.length<=1000): ∃a5',GI.ex (TG xb) (calls TT FF (n+1)) .free [a0,some (.loc 0),a2,a3,some (.d (.str x)),a5] [some (.list (out.map .str))] = .ok .next [a0,some (.loc 0),a2,a3,some (.d (.str x)),a5'] [some (.list ((out++[jr (I' out.length 0) x]).map .str))]:=by
 obtain⟨a,ha,rfl⟩:=Q2.mp hx;refine⟨some (.d (iL a)),af (K5 n _ a0 _ a2 a3 a5 a ha) ?_⟩
 refine af (dw (l:=out.map .str) (ρ1:=[a0,some (.loc 0),a2,a3,some (.d (.str a.1)),some (.d (iL a))]) (Γ1:=[some (.list (out.map .str))]) (x := .str (jr (I' out.length 0) a.1)) rfl rfl ?_ rfl (aO (by simp;exact bg ‹_›))) ?_
 ·rw[ES _ a ha]
  cases out with
  |nil=>exact aM rfl (gM rfl rfl) rfl
  |cons c r=>exact aM rfl (gV rfl rfl) rfl
 ·simp only[OM];rfl
theorem A3{n:Nat}{a0:Option V}: ∀(ps:List (Tx×Tx)) (out:List Tx) (a2 a3 a4 a5:Option V),(∀p∈ps,p.1∈atT/\p.2∈atT)->out.length+2 * ps.length<=1000->∃a2' a3' a4' a5',
  bO (fun v ρ Γ=>((Aa.ak 1).ft.bC (calls TT FF (n+1)) .free (TG xb) v ρ Γ).bind fun _ ρ Γ=>(Aa.ak 1).wb.ex (TG xb) (calls TT FF (n+1)) .free ρ Γ) (ps.map fun p => .d (bx p)) [a0,some (.loc 0),a2,a3,a4,a5] [some (.list (out.map .str))]
   = .ok .next [a0,some (.loc 0),a2',a3',a4',a5'] [some (.list ((out++outs out.length (flat ps)).map .str))]:=by
 intro z_
 induction z_ with
 |nil=>
  exact fun out a2 a3 a4 a5 _ _=>⟨a2,a3,a4,a5,by simp only[fy,eZ,outs,OE];rfl⟩
 |cons p ps ih_=>
  intro out a2 a3 a4 a5 h hl;simp only[N6] at hl;obtain⟨b5,h1⟩:=Jq (n:=n) (x:=p.1) (out:=out) (a0:=a0) (a2:=some (.d (.str p.1))) (a3:=some (.d (.str p.2))) (a5:=a5) (h p (by simp)).1 (ba hl)
  obtain⟨c5,h2⟩:=Jq (n:=n) (x:=p.2) (out:=out++[jr (I' out.length 0) p.1]) (a0:=a0) (a2:=some (.d (.str p.1))) (a3:=some (.d (.str p.2))) (a5:=b5) (h p (by simp)).2 (by simp;exact ba hl)
  obtain⟨a2',a3',a4',a5',ih⟩:=ih_ (out++[jr (I' out.length 0) p.1]++[jr (I' (out++[jr (I' out.length 0) p.1]).length 0) p.2]) (some (.d (.str p.1))) (some (.d (.str p.2))) (some (.d (.str p.2))) c5 (fun q hq=>h q (by simp[hq])) (by simp;exact ba hl)
  refine⟨a2',a3',a4',a5',bW (ρ1:=[a0,some (.loc 0),some (.d (.str p.1)),some (.d (.str p.2)),some (.d (.str p.2)),c5]) ?_ (ih.trans ?_)⟩
  ·exact af (cJ (v := .d (.lst [.str p.1,.str p.2])) rfl (vs:=[.d (.str p.1),.d (.str p.2)]) rfl (bW h1 (bW h2 rfl))) rfl
  ·simp only[fy,eZ,outs,Oh,N1,N6,Pk];rfl
theorem II(n:Nat){ps:List (Tx×Tx)}(h : ∀p∈ps,p.1∈atT/\p.2∈atT)(hl:ps.length<=40): ∃Γ,calls TT FF (n+2) true 43 [.d (.lst (ps.map bx))] [] = .ok (.d (.str (bU [32] (outs 0 (flat ps))))) Γ:=by
 obtain⟨a2',a3',a4',a5',hlp⟩:=A3 (n:=n) (a0:=some (.d (.lst (ps.map bx)))) ps [] none none none none h (by simp;exact ba (eR 2 hl))
 have hj:=nT _ (nf (flat ps) 0 (nu h));rw[nQ,hJ] at hj;refine⟨_,aH (f:=Mine.A3) rfl rfl (aR (ρ:=[some (.d (.lst (ps.map bx))),some (.loc 0),a2',a3',a4',a5']) (Γ:=[some (.list ((outs 0 (flat ps)).map .str))]) ?_)⟩
 refine af (ρ1:=[some (.d (.lst (ps.map bx))),some (.loc 0),none,none,none,none]) (Γ1:=[some (.list [])]) rfl ?_
 refine af (cJ (v := .d (.lst (ps.map bx))) rfl (vs:=ps.map fun(p:Tx×Tx)=>V.d (bx p)) ?_ hlp) ?_
 ·exact gy
 ·exact aG (bP (tW rfl rfl (N0 hj (ba (eR 20 hl)))))
noncomputable def cz:List Tx:=[[42],[97],[63],[98],[91,97,35,93],[35],[92,125],[91,49,45,97,93]]
noncomputable def chars:List Nat:=[97,98,32,35,125,49]
noncomputable def star:Tx:=[42]
noncomputable def tk(p:Tx)(c:Nat):Bool:=cond (ao p [63]) true (cond (ao p [91,97,35,93]) (I' c 97||I' c 35) (cond (ao p [91,49,45,97,93]) (OB 49 c&&OB c 97) (match p.getLast? with | some d=>I' c d | none=>false)))
noncomputable def ma:List Tx->Tx->Bool
 | [],t=>t.isEmpty
 |p::r,t=>cond (ao p star) ((OX (t.length+1)).any fun i=>ma r (t.drop i)) (match t with | []=>false | c::t=>tk p c&&ma r t)
noncomputable def ez(i:Nat)(S:List Nat):List Nat:=if i∈S then S else S++[i]
noncomputable def cl:List Tx->Nat->List Nat->List Nat
 | [],i,S=>ez i S
 |p::r,i,S=>cond (ao p star) (cl r (i+1) (ez i S)) (ez i S)
noncomputable def stepI(ps:List Tx)(c:Nat)(acc:List Nat)(i:Nat):List Nat:=match ps.drop i with
 | []=>acc
 |p::r=>cond (ao p star) (cl (p::r) i acc) (cond (tk p c) (cl r (i+1) acc) acc)
noncomputable def cT(ps:List Tx)(c:Nat)(S:List Nat):List Nat:=S.foldl (stepI ps c) []
noncomputable def jg(ps:List Tx):Bool:=match ps.getLast? with | some p=>ao p star | none=>false
noncomputable def ng(ps:List Tx):List Nat->Tx->Bool
 |S,[]=>decide (ps.length∈S)
 |S,c::t=>cond (jg ps&&decide (ps.length-1∈S)) true (cond (cT ps c S).isEmpty false (ng ps (cT ps c S) t))
set_option tactic.hygienic true in
theorem l8{i j:Nat}{S:List Nat}:j∈ez i S↔j=i\/j∈S:=by
 unfold ez;split
 ·rename_i h;constructor
  ·exact .inr
  ·rintro(rfl | h2)<;>assumption
 ·simp only[Qq,N7,Ou,or_false];exact or_comm
def fX(r:List Tx)(k:Nat):Prop:=k<=r.length/\∀p∈r.take k,p=star
theorem eb : ∀(r:List Tx) (i j:Nat) (S:List Nat),j∈cl r i S↔j∈S\/∃k,j=i+k/\fX r k:=by
 intro z_
 induction z_ with
 |nil=>
  intro i j S;simp only[cl,l8];constructor
  ·rintro(rfl | h)
   ·exact .inr ⟨0,rfl,by simp[fX]⟩
   ·exact .inl h
  ·rintro(h | ⟨k,rfl,h1,_⟩)
   ·exact .inr h
   ·left;simp at h1;exact E9 h1
 |cons p r ih_=>
  intro i j S;simp only[cl];cases q:ao p star with
  |false=>
   simp only[cond_false,l8];constructor
   ·rintro(rfl | h)
    ·exact .inr ⟨0,rfl,by simp[fX]⟩
    ·exact .inl h
   ·rintro(h | ⟨k,rfl,h1,h2⟩)
    ·exact .inr h
    ·cases k with
     |zero=>exact .inl rfl
     |succ k=>
      have:=h2 p (by simp)
      subst this;injection (dz ..).symm.trans q
  |true=>
   have hp:=bG q;simp only[cond_true,ih_ (i+1) j,l8];constructor
   ·rintro((rfl | h) | ⟨k,rfl,h1,h2⟩)
    ·exact .inr ⟨0,rfl,by simp[fX]⟩
    ·exact .inl h
    ·refine .inr ⟨k+1,O2 _ _,by simp;assumption,?_⟩
     intro x hx;simp only[UA,N7] at hx;rcases hx with rfl | hx
     ·exact hp
     ·exact h2 x hx
   ·rintro(h | ⟨k,rfl,h1,h2⟩)
    ·exact .inl (.inr h)
    ·cases k with
     |zero=>exact .inl (.inl rfl)
     |succ k=>
      refine .inr ⟨k,(O2 _ _).symm,by simp at h1;assumption,fun x hx=>h2 x (by simp[hx])⟩
theorem any_range{t:Tx}{f:Tx->Bool}:((OX (t.length+1)).any fun i=>f (t.drop i))=true↔∃i,i<=t.length/\f (t.drop i)=true:=by
 simp only[QH,P0];exact⟨fun hz=>by obtain⟨i,h1,h2⟩:=hz;exact⟨i,P7 ‹_›,h2⟩,fun hz=>by obtain⟨i,h1,h2⟩:=hz;exact⟨i,ba h1,h2⟩⟩
theorem hH{r:List Tx}{t:Tx}:ma (star::r) t=true↔∃i,i<=t.length/\ma r (t.drop i)=true:=by
 simp only[ma,dz,cond_true];exact any_range
theorem Cy{r:List Tx}{t:Tx}(h:ma r t=true):ma (star::r) t=true:=hH.mpr ⟨0,by simp +arith only,by simpa using h⟩
theorem DM{r:List Tx}{c:Nat}{t:Tx}(h:ma (star::r) t=true):ma (star::r) (c::t)=true:=by
 obtain⟨i,h1,h2⟩:=hH.mp h;exact hH.mpr ⟨i+1,by simp;assumption,by simpa using h2⟩
theorem DW{r:List Tx}{c:Nat}{t:Tx}(h:ma (star::r) (c::t)=true):ma r (c::t)=true\/ma (star::r) t=true:=by
 obtain⟨i,h1,h2⟩:=hH.mp h;cases i with
 |zero=>exact .inl (by simpa using h2)
 |succ i=>exact .inr (hH.mpr ⟨i,by simp at h1;assumption,by simpa using h2⟩)
theorem kH : ∀(k:Nat) (r:List Tx) (t:Tx),fX r k->ma (r.drop k) t=true->ma r t=true
 |0,r,t,_,h=>by simpa using h
 |k+1,[],t,h,_=>by simp[fX] at h
 |k+1,p::r,t,⟨h1,h2⟩,h=>by
  have hp:=h2 p (by simp)
  subst hp;exact Cy (kH k r t ⟨by simp at h1;assumption,fun x hx=>h2 x (by simp[hx])⟩ (by simpa using h))
def jG(ps:List Tx)(S:List Nat):Prop := ∀i∈S,i<=ps.length/\∀r,ps.drop i=star::r->i+1∈S
theorem d8{ps r:List Tx}{p:Tx}{i:Nat}(h:ps.drop i=p::r):i+1+r.length=ps.length/\ps.drop (i+1)=r:=by
 have:=congrArg Qs h;simp only[Pd,N6] at this;refine⟨by lia,?_⟩
 rw[<-List.tail_drop,h];rfl
theorem o8{ps:List Tx}{S:List Nat}: ∀{r:List Tx} {i:Nat},jG ps S->ps.drop i=r->i<=ps.length->jG ps (cl r i S):=by
 intro r i hS hr hi j hj;rw[eb] at hj;rcases hj with h | ⟨k,rfl,h1,h2⟩
 ·refine⟨(hS j h).1,fun r' hr' => ?_⟩
  rw[eb];exact .inl ((hS j h).2 r' hr')
 ·subst hr
  rw[Pd] at h1;refine⟨Ua .. ▸Nat.add_le_of_le_sub ‹_› h1,fun r' hr' => ?_⟩
  rw[eb];refine .inr ⟨k+1,(O2 _ _).symm,?_,?_⟩
  ·rw[Pd];exact Uy (ba (cb (d8 hr').1))
  ·intro x hx
   rw[U7] at hx;rcases Qq.mp hx with hx | hx
   ·exact h2 x hx
   ·rw[Qr] at hx
    have e:ps[i+k]?=some star:=by
     have:=congrArg (·[0]?) hr';simpa using this
    rw[e] at hx;simpa using hx
set_option tactic.hygienic true in
theorem yf{ps:List Tx}{c:Nat}{acc:List Nat}{i:Nat}(h:jG ps acc)(hi:i<=ps.length):jG ps (stepI ps c acc i):=by
 unfold stepI;split
 ·exact h
 ·rename_i p r hd
  cases q:ao p star with
  |true=>exact o8 h hd hi
  |false=>
   cases q2:tk p c with
   |true=>exact o8 h (d8 hd).2 (by have:=(d8 hd).1;exact ba (cb this))
   |false=>exact h
theorem nB{ps:List Tx}{c:Nat}: ∀(S acc:List Nat),jG ps acc->(∀i∈S,i<=ps.length)->jG ps (S.foldl (stepI ps c) acc)
 | [],acc,h,_=>h
 |i::S,acc,h,hS=>nB S _ (yf h (hS i (by simp))) fun j hj=>hS j (by simp[hj])
set_option tactic.hygienic true in
theorem wi{ps:List Tx}{c:Nat}{acc:List Nat}{i j:Nat}:j∈stepI ps c acc i↔j∈acc\/j∈stepI ps c [] i:=by
 unfold stepI;split
 ·simp
 ·rename_i p r hd
  cases q:ao p star with
  |true=>simp only[cond_true,eb];simp
  |false=>
   cases q2:tk p c with
   |true=>simp only[cond_true,cond_false,eb];simp
   |false=>simp
theorem sA{ps:List Tx}{c:Nat}{j:Nat}: ∀(S acc:List Nat),j∈S.foldl (stepI ps c) acc↔j∈acc\/∃i∈S,j∈stepI ps c [] i
 | [],acc=>by simp
 |i::S,acc=>by
  simp only[RE,sA S,N7,exists_eq_or_imp];rw[wi,or_assoc]
set_option tactic.hygienic true in
theorem CU{ps:List Tx}{c:Nat}{S:List Nat}{t:Tx}(hS:jG ps S):(∃i∈S,ma (ps.drop i) (c::t)=true)↔∃j∈cT ps c S,ma (ps.drop j) t=true:=by
 have memS : ∀j,j∈cT ps c S↔∃i∈S,j∈stepI ps c [] i:=fun j=>by simp only[cT,sA];simp
 constructor
 ·rintro⟨i,hi,h⟩
  generalize hk:ps.length-i=k
  induction k generalizing i with
  |zero=>
   rw[Pr (Ul hk)] at h;simp[ma] at h
  |succ k ih=>
   cases hd:ps.drop i with
   |nil=>rw[hd] at h;simp[ma] at h
   |cons p r=>
    rw[hd] at h;have hdl:=d8 hd;cases q:ao p star with
    |true=>
     have hp:=bG q;subst hp;rcases DW h with h | h
     ·exact ih (i+1) ((hS i hi).2 r hd) (by rw[hdl.2];exact h) (by rw[Wl,hk];rfl)
     ·refine⟨i,(memS i).mpr ⟨i,hi,?_⟩,by rw[hd];exact h⟩
      simp only[stepI,hd,dz,cond_true,eb];exact .inr ⟨0,rfl,by simp[fX]⟩
    |false=>
     simp only[ma,q,cond_false,OG] at h;refine⟨i+1,(memS _).mpr ⟨i,hi,?_⟩,by rw[hdl.2];exact h.2⟩
     simp only[stepI,hd,q,cond_false,h.1,cond_true,eb];exact .inr ⟨0,rfl,by simp[fX]⟩
 ·rintro⟨j,hj,h⟩
  obtain⟨i,hi,hj⟩:=(memS j).mp hj;refine⟨i,hi,?_⟩
  unfold stepI at hj;split at hj
  ·simp at hj
  ·rename_i p r hd
   have hdl:=d8 hd;cases q:ao p star with
   |true=>
    rw[q,cond_true,eb] at hj;have hp:=bG q;subst hp;rcases hj with hj | ⟨k,rfl,hk⟩
    ·simp at hj
    ·rw[hd]
     refine DM (kH k _ _ hk ?_)
     rw[<-hd,S4];exact h
   |false=>
    rw[q,cond_false] at hj;cases q2:tk p c with
    |false=>rw[q2] at hj;simp at hj
    |true=>
     rw[q2,cond_true,eb] at hj;rcases hj with hj | ⟨k,rfl,hk⟩
     ·simp at hj
     ·rw[hd]
      simp only[ma,q,cond_false,q2,Rm];refine kH k r t hk ?_
      rw[<-hdl.2,S4];exact h
theorem p9 : ∀(r:List Tx),ma r []=true->fX r r.length
 | [],_=>by simp[fX]
 |p::r,h=>by
  cases q:ao p star with
  |false=>simp only[ma,q,cond_false] at h;injection h
  |true=>
   have hp:=bG q;subst hp;obtain⟨i,h1,h2⟩:=hH.mp h;have:=p9 r (by simpa using h2)
   refine⟨by simp,fun x hx => ?_⟩
   simp only[List.take_length,N7] at hx;rcases hx with rfl | hx
   ·rfl
   ·exact this.2 x (by simpa using hx)
theorem tL{ps:List Tx}{S:List Nat}(hS:jG ps S): ∀(k i:Nat),i∈S->fX (ps.drop i) k->i+k∈S
 |0,i,hi,_=>hi
 |k+1,i,hi,⟨h1,h2⟩=>by
  rw[Pd] at h1;cases hd:ps.drop i with
  |nil=>have:=congrArg Qs hd;simp at this;exact kn (cb this) h1
  |cons p r=>
   have hp:=h2 p (by rw[hd];simp)
   subst hp;have:=tL hS k (i+1) ((hS i hi).2 r hd) ⟨by rw[Pd,Wl];exact Uy h1,fun x hx=>h2 x (by rw[(d8 hd).2] at hx;rw[hd];simp[hx])⟩
   rw[show i+(k+1)=i+1+k from(O2 i k).symm];exact this
set_option tactic.hygienic true in
theorem B8(ps:List Tx): ∀(t:Tx) (S:List Nat),jG ps S->(ng ps S t=true↔∃i∈S,ma (ps.drop i) t=true):=by
 intro z_
 induction z_ with
 |nil=>
  intro S hS;simp only[ng,decide_eq_true_eq];constructor
  ·intro h;exact⟨_,h,by simp[ma]⟩
  ·rintro⟨i,hi,h⟩
   have:=tL hS _ i hi (p9 _ h);rw[Pd] at this;rwa [show i+(ps.length-i)=ps.length from PZ (hS i hi).1] at this
 |cons c t ih_=>
  intro S hS;have ih:=ih_ (cT ps c S) (nB S [] (fun i hi=>by simp at hi) fun i hi=>(hS i hi).1)
  have st:=CU (c:=c) (t:=t) hS;simp only[ng];cases q:jg ps&&decide (ps.length-1∈S) with
  |true=>
   simp only[OG,decide_eq_true_eq] at q;refine⟨fun _=>⟨_,q.2,?_⟩,fun _=>rfl⟩
   have he:=q.1;unfold jg at he;split at he
   ·rename_i p hp
    have hp2:=bG he;subst hp2;have:ps.drop (ps.length-1)=[star]:=by
     obtain⟨ys,rfl⟩:=List.getLast?_eq_some_iff.mp hp
     simp
    rw[this];exact hH.mpr ⟨_,Ox _,by simp[ma]⟩
   ·injection he
  |false=>
   simp only[cond_false];cases q2:(cT ps c S).isEmpty with
   |true=>
    have e:=QF.mp q2;rw[st,e];simp
   |false=>rw[cond_false,ih,st]
theorem uC(ps:List Tx)(t:Tx):ng ps (cl ps 0 []) t=ma ps t:=by
 have hC:jG ps (cl ps 0 []):=o8 (fun i hi=>by simp at hi) rfl (by simp +arith only)
 rw[Pz,B8 ps t _ hC];constructor
 ·rintro⟨i,hi,h⟩
  rw[eb] at hi;rcases hi with hi | ⟨k,rfl,hk⟩
  ·simp at hi
  ·exact kH k ps t hk (by simpa using h)
 ·intro h
  exact⟨0,by rw[eb];exact .inr ⟨0,rfl,by simp[fX]⟩,by simpa using h⟩
noncomputable def IX(r:RG)(b:Bool):Bool:=fP ((RG.val r).bind fun v=>(v.of D.bool?).map fun q=>cond b q (!q))
theorem Nz : ∀{b q:Bool},cond b q (!q)=true->q=b:=by decide
theorem Dc{b:Bool}{r:RG}(h:IX r b=true): ∃Γ,r = .ok (.d (.bool b)) Γ:=by
 obtain⟨v,h1,h⟩:=ai (cK h);obtain⟨q,h2,h3⟩:=aJ h;obtain⟨d,h4,h5⟩:=V.of_eq h2;obtain⟨Γ,h6⟩:=RG.val_eq h1;exact⟨Γ,by rw[h6,h4,D.zH h5,Nz h3]⟩
theorem GG(n:Nat):(cz.all fun p=>chars.all fun c=>ao p star||IX (calls TT FF (n+1) true 60 [.d (.str p),.d (.str [c])] []) (tk p c))=true:=by kernel_rfl
theorem Lk(n:Nat){p:Tx}{c:Nat}(hp:p∈cz)(hc:c∈chars)(hs:ao p star=false): ∃Γ,calls TT FF (n+1) true 60 [.d (.str p),.d (.str [c])] [] = .ok (.d (.bool (tk p c))) Γ:=by
 have h:=iH (iH (GG n) hp) hc;rw[hs] at h;exact Dc h
section rules
variable{T:Tab}{O:aL}{m:Md}{ρ ρ1 ρ2 UH:aq}{Γ Γ1 Qp S8:ag}{a b e:Ex}{t:Te}{x y z:D}{u v w:V}{p:Nat}{es:bf}{r:Res V}
theorem qU{e2:Ex}(h1:e.ev O m T ρ Γ = .ok v ρ1 Γ1)(h2:d9 Γ1 v=some true)(h3:(bf.cons e2 es).bL O m T ρ1 Γ1=r):(bf.cons e (.cons e2 es)).bL O m T ρ Γ=r:=br h1 (eG h2 h3)
theorem Ae{e2:Ex}(h1:e.ev O m T ρ Γ = .ok v ρ1 Γ1)(h2:d9 Γ1 v=some false):(bf.cons e (.cons e2 es)).bL O m T ρ Γ = .ok v ρ1 Γ1:=br h1 (eG h2 rfl)
theorem uT(h1:e.ev O m T ρ Γ=r):(bf.cons e .nil).bL O m T ρ Γ=r:=h1
theorem r7(h:es.bL O m T ρ Γ=r):(Ex.ny es p).ev O m T ρ Γ=r:=h
theorem gP{a lo:Ex}{i:Int}{p1:Nat}(h1:a.ev O m T ρ Γ = .ok u ρ1 Γ1)(h2:lo.ev O m T ρ1 Γ1 = .ok (.d (.int i)) ρ2 Qp)(h3:dq u (some i) none=some w):(Ex.pk a lo p p1).ev O m T ρ Γ = .ok w ρ2 Qp:=by
 exact br h1 (br h2 (opt h3))
theorem mj{a lo hi:Ex}{i j:Int}{p1:Nat}(h1:a.ev O m T ρ Γ = .ok u ρ1 Γ1)(h2:lo.ev O m T ρ1 Γ1 = .ok (.d (.int i)) ρ2 Qp)(h4:hi.ev O m T ρ2 Qp = .ok (.d (.int j)) UH S8)(h3:dq u (some i) (some j)=some w):(Ex.ni a lo hi p p1).ev O m T ρ Γ = .ok w UH S8:=by
 exact br h1 (br h2 (br h4 (opt h3)))
theorem lu{f:Ex}{k:Bi}{vs:List V}(h1:es.ev O .free T ρ Γ = .ok vs ρ1 Γ1)(h2:builtin k Γ1 vs=some x):(Ex.gH k f es p).ev O .free T ρ Γ = .ok (.d x) ρ1 Γ1:=by
 have:(k.calm||Md.free.b)=true:=by cases k<;>rfl
 exact br h1 (opt (by rw[this,h2];rfl))
end rules
theorem mM(l:List Bool):boolsOf (l.map .bool)=some l:=by
 induction l with
 |nil=>rfl
 |cons x r ih=>exact congrArg (·.map (x :: ·)) ih
theorem gO : ∀l:List Bool,anyB l=l.any id
 | []=>rfl
 |b::r=>by simp only[anyB,gO r,Rk];cases b<;>rfl
theorem Ed : ∀(k a:Nat),cQ (.ofNat a) (.ofNat 1) k=(List.range' a k).map fun i=>V.d (.int (.ofNat i))
 |0,_=>rfl
 |k+1,a=>by
  simp only[cQ,List.range'_succ,Oa];congr 1;exact(congrArg (fun z=>cQ z _ _) (show OO a+OO 1=OO (a+1) from rfl)).trans (Ed k (a+1))
noncomputable abbrev au(l:List Tx):D := .lst (l.map .str)
theorem uh{t:Tx}{i:Nat}(h:t.length<=1000)(hi:i<=t.length):dq (.d (.str t)) (some (.ofNat i)) none=some (.d (.str (t.drop i))):=by
 show(dn _ _ _).map V.d=_;simp only[OD,dn,aO (show t.length<=16777216 by omega),cond_true,slice,iI,cut,P' hi]
 rw[Qx (by simp)]
theorem sU{x:D}{l:List D}(h:l.length<=1000):dq (.d (.lst (x::l))) (some (.ofNat 1)) none=some (.d (.lst l)):=by
 have h1:ay (x::l).length=true:=aO (by simp;exact bg ‹_›)
 show(dn _ _ _).map V.d=_;simp only[OD,dn,h1,cond_true,slice,iI,cut]
 rw[show min 1 (x::l).length=1 by simp]
 simp
theorem NG : ∀(ps:List Tx) (n:Nat) (t:Tx),(∀p∈ps,p∈cz)->(∀c∈t,c∈chars)->ps.length<=100->t.length<=100->∃Γ,calls TT FF (n+ps.length+1) true 61 [.d (au ps),.d (.str t)] [] = .ok (.d (.bool (ma ps t))) Γ:=by
 intro z_
 induction z_ with
 |nil=>
  intro n t _ _ _ _;cases t with
  |nil=>exact⟨[],aH (f:=xe) rfl rfl (aR (ρ:=[some (.d (au [])),some (.d (.str []))]) (aG (aV rfl rfl)))⟩
  |cons c t=>exact⟨[],aH (f:=xe) rfl rfl (aR (ρ:=[some (.d (au [])),some (.d (.str (c::t)))]) (aG (aV rfl rfl)))⟩
 |cons p r ih_=>
  intro n t hp hc hl ht;simp only[N6] at hl;have hpm:=hp p (by simp)
  have hr : ∀q∈r,q∈cz:=fun q hq=>hp q (by simp[hq])
  cases q:ao p star with
  |true=>
   have e:=bG q;subst e;refine⟨[],aH (f:=xe) (ρ:=[some (.d (au (star::r))),some (.d (.str t))]) rfl rfl (aR (ρ:=[some (.d (au (star::r))),some (.d (.str t))]) ?_)⟩
   refine af (ρ1:=[some (.d (au (star::r))),some (.d (.str t))]) (Γ1:=[]) (aw rfl rfl) ?_
   refine aG (aV (ρ1:=[some (.d (au (star::r))),some (.d (.str t))]) (Γ1:=[]) rfl (aG (bP (lu (aj (v := .d (.lst (((OX (t.length+1)).map fun i=>ma r (t.drop i)).map .bool))) (fJ (v := .d (.eF 0 (.ofNat (t.length+1)) 1)) (vs:=(OX (t.length+1)).map fun i=>V.d (.int (.ofNat i))) (cv (aj (aC (x := .int (.ofNat t.length)) (cv rfl (len_str (bg ‹_›)) rfl) rfl rfl) rfl) rfl rfl) ?_ ?_ ?_) rfl) ?_))))
   ·show cond (ay 0&&ay (t.length+1)&&ay 0) _ _=_
    rw[aO (show t.length+1<=16777216 by omega),show(t.length+1-0+0)/(0+1)=t.length+1 from XT _]
    show some (cQ (.ofNat 0) (.ofNat 1) _)=_
    rw[Ed,List.range_eq_range']
   ·simp only[Oe,U'];exact aO (ot ‹_›)
   ·rw[Pc]
    refine comp_map (I:=fun ρ => ∃a,ρ=[a,some (.d (au (star::r))),some (.d (.str t))]) (g:=fun i=>V.d (.int (.ofNat i))) _ _ ?_ ⟨_,rfl⟩
    rintro i hi _ ⟨a,rfl⟩;have hi:i<t.length+1:=P0.mp hi;obtain⟨Γ',ih⟩:=ih_ n (t.drop i) hr (fun c h=>hc c (Qj h)) (Oy ‹_›) (by simp;exact ba ht)
    refine⟨[some (.d (.int (.ofNat i))),some (.d (au (star::r))),some (.d (.str t))],hW (ρ1:=[some (.d (.int (.ofNat i))),some (.d (au (star::r))),some (.d (.str t))]) (Γ1:=[]) rfl rfl (az (vs:=[.d (au r),.d (.str (t.drop i))]) (ad:=828) rfl (aj (gP rfl rfl (sU (by simp;exact bg (Oy ‹_›)))) (aj (gP rfl rfl (uh (bg ‹_›) (P7 ‹_›))) rfl)) rfl (aN rfl ih) rfl),_,rfl⟩
   ·show(boolsOf (_)).map _=_
    simp only[mM,OD,gO,ma,dz,cond_true,WQ];rfl
  |false=>
   have h0 : ∀O,(F9.ak 0).ex (TG AW) O .free [some (.d (au (p::r))),some (.d (.str t))] [] = .ok .next [some (.d (au (p::r))),some (.d (.str t))] []:=fun O=>aw rfl rfl
   have h1 : ∀O,(F9.ak 1).ex (TG AW) O .free [some (.d (au (p::r))),some (.d (.str t))] [] = .ok .next [some (.d (au (p::r))),some (.d (.str t))] []:=fun O=>aw (ρ1:=[some (.d (au (p::r))),some (.d (.str t))]) (Γ1:=[]) (aY (bc (u := .d (.str p)) (v := .d (.str star)) (r:=false) (aM (v := .d (.int (.ofNat 0))) rfl rfl (bB rfl (by simp;exact bg (Oy ‹_›)))) rfl (by show some (ao p star)=_;rw[q])) rfl) rfl
   refine⟨[],aH (f:=xe) (ρ:=[some (.d (au (p::r))),some (.d (.str t))]) rfl rfl (aR (ρ:=[some (.d (au (p::r))),some (.d (.str t))]) ?_)⟩
   refine af (h0 _) (af (h1 _) (aG (bP (r7 ?_))))
   cases t with
   |nil=>rw[show ma (p::r) []=false by simp only[ma,q,cond_false]];exact Ae rfl rfl
   |cons c t=>
    simp only[N6] at ht;obtain⟨Γ1,hk⟩:=Lk (n+r.length) hpm (hc c (by simp)) q
    have hcell:(bf.cons (.sub (.var 0 0) (.int 0 0) 0) (.cons (.sub (.var 1 0) (.int 0 0) 0) .nil)).ev (calls TT FF (n+r.length+1)) .free (TG AW) [some (.d (au (p::r))),some (.d (.str (c::t)))] [] = .ok [.d (.str p),.d (.str [c])] [some (.d (au (p::r))),some (.d (.str (c::t)))] []:=
     aj (aM (v := .d (.int (.ofNat 0))) rfl rfl (bB rfl (by simp;exact bg (Oy ‹_›)))) (aj (aM rfl rfl rfl) rfl)
    refine qU (v := .d (.bool true)) (ρ1:=[some (.d (au (p::r))),some (.d (.str (c::t)))]) (Γ1:=[]) rfl rfl ?_
    cases q2:tk p c with
    |false=>
     rw[show ma (p::r) (c::t)=false by simp only[ma,q,cond_false,q2,S5]]
     exact Ae (az (ad:=823) rfl hcell rfl (aN rfl (q2▸hk)) rfl) rfl
    |true=>
     rw[show ma (p::r) (c::t)=ma r t by simp only[ma,q,cond_false,q2,Rm]]
     obtain⟨Γ',ih⟩:=ih_ n t hr (fun c h=>hc c (by simp[h])) (Oy ‹_›) (Oy ‹_›)
     refine qU (v := .d (.bool true)) (ρ1:=[some (.d (au (p::r))),some (.d (.str (c::t)))]) (Γ1:=[]) (az (ad:=823) rfl hcell rfl (aN rfl (q2▸hk)) rfl) rfl ?_
     exact uT (az (vs:=[.d (au r),.d (.str t)]) (ad:=828) rfl (aj (gP rfl rfl (sU (by simp;exact bg (Oy ‹_›)))) (aj (gP rfl rfl (uh (i:=1) (by simp;exact bg (Oy ‹_›)) (by simp))) rfl)) rfl (aN rfl ih) rfl)
noncomputable def Ms(r:Option AV)(b:Bool)(j:Nat):Bool:=fP (r.map fun a=>cond b (fP (a.pos?.map fun k=>I' k j)) (fP ((a.d?.bind D.int?).map fun i=>i == .negSucc 0)))
theorem DU(n:Nat):(cz.all fun p=>chars.all fun c=>ao p star||Ms (jZ p false TT FF (n+3) 29 [.view,.pos 0,.d (.str [c])]) (tk p c) p.length)=true:=by kernel_rfl
noncomputable abbrev cat(ps:List Tx):Tx:=ps.flatten
noncomputable def bd(ps:List Tx)(i:Nat):Nat:=(cat (ps.take i)).length
theorem sF(ps:List Tx)(i:Nat):cat ps=cat (ps.take i)++cat (ps.drop i):=by
 rw[<-List.flatten_append,List.take_append_drop]
theorem md(ps:List Tx)(i:Nat):(cat ps).drop (bd ps i)=cat (ps.drop i):=by
 rw[sF ps i,bd,VW]
theorem lX{ps r:List Tx}{p:Tx}{i:Nat}(h:ps.drop i=p::r):bd ps (i+1)=bd ps i+p.length:=by
 have e:ps[i]?=some p:=by
  have:=congrArg (·[0]?) h;simpa using this
 rw[bd,U7,e];simp[bd]
theorem ou(ps:List Tx):bd ps ps.length=(cat ps).length:=by simp[bd]
theorem ya : ∀p∈cz,∃c r,p=c::r/\ao [c] star=ao p star/\p.length<=5:=by
 intro p hp;simp only[cz,N7,Ou,or_false] at hp;rcases hp with rfl | rfl | rfl | rfl | rfl | rfl | rfl | rfl<;>exact⟨_,_,rfl,rfl,by decide⟩
theorem mf{ps:List Tx}(hp : ∀p∈ps,p∈cz): ∀{j i:Nat},i<j->j<=ps.length->bd ps i<bd ps j:=by
 intro j
 induction j with
 |zero=>intro i h;exact vK h
 |succ j ih=>
  intro i h hj;cases hd:ps.drop j with
  |nil=>exact kn (RR.mp hd) hj
  |cons p r=>
   have hm:p∈ps:=Qj (i:=j) (by rw[hd];simp)
   obtain⟨c,q,rfl,_⟩:=ya p (hp p hm);rw[lX hd];simp only[N6];rcases Nat.lt_succ_iff_lt_or_eq.mp h with h | rfl
   ·have:=ih h (Oy ‹_›);exact ba this
   ·simp +arith only
theorem wN{ps:List Tx}(hp : ∀p∈ps,p∈cz){i j:Nat}(hi:i<=ps.length)(hj:j<=ps.length)(h:bd ps i=bd ps j):i=j:=by
 rcases Vl i j with q | q | q
 ·have:=mf hp q hj;exact kn (pJ h) this
 ·exact q
 ·have:=mf hp q hi;exact kn (cb h) this
noncomputable def dy(ps:List Tx)(S:List Nat):List (Int×D):=S.map fun i=>(.ofNat (bd ps i),.bool true)
theorem uG{ps:List Tx}(hp : ∀p∈ps,p∈cz){i:Nat}(hi:i<=ps.length): ∀{S:List Nat},(∀j∈S,j<=ps.length)->iX (.ofNat (bd ps i)) (.bool true) (dy ps S)=dy ps (ez i S)
 | [],_=>rfl
 |j::S,h=>by
  have ih:=uG hp hi (S:=S) fun k hk=>h k (by simp[hk])
  have hj:=h j (by simp)
  simp only[dy,Oa,DN,Dm] at ih ⊢;show cond (I' (bd ps i) (bd ps j)) _ _=_
  by_cases q:i=j
  ·subst q
   rw[OZ,cond_true,ez,if_pos (by simp)];rfl
  ·have:I' (bd ps i) (bd ps j)=false:=by
    cases q2:I' (bd ps i) (bd ps j) with
    |false=>rfl
    |true=>exact absurd (wN hp hi hj (N2 q2)) q
   rw[this,cond_false,ih];unfold ez;by_cases h2:i∈S
   ·rw[if_pos h2,if_pos (by simp[h2])];rfl
   ·rw[if_neg h2,if_neg (by simp[h2,q])];rfl
theorem nc{ps:List Tx}(hp : ∀p∈ps,p∈cz){i:Nat}(hi:i<=ps.length): ∀{S:List Nat},(∀j∈S,j<=ps.length)->(dK (.ofNat (bd ps i)) (dy ps S)).isSome=decide (i∈S)
 | [],_=>rfl
 |j::S,h=>by
  have ih:=nc hp hi (S:=S) fun k hk=>h k (by simp[hk])
  have hj:=h j (by simp)
  simp only[dy,Oa,BO,CG] at ih ⊢;show S0 (cond (I' (bd ps i) (bd ps j)) _ _)=_
  by_cases q:i=j
  ·subst q
   rw[OZ];simp
  ·have:I' (bd ps i) (bd ps j)=false:=by
    cases q2:I' (bd ps i) (bd ps j) with
    |false=>rfl
    |true=>exact absurd (wN hp hi hj (N2 q2)) q
   rw[this,cond_false,ih];simp[q]
theorem vO{P:Tx}{b:Nat}(h:P.length<=1000):dq (.d (.str P)) (some (.ofNat b)) (some (.ofNat (b+1)))=some (.d (.str ((P.drop b).take 1))):=by
 show(dn _ _ _).map V.d=_;simp only[OD,dn,aO (show P.length<=16777216 from bg h),cond_true,slice,iI,cut]
 congr 3
 by_cases q:b<P.length
 ·rw[P' (‹_›),P' (Oy ‹_›)];congr 1;exact P1 b 1
 ·rw[VC (ba (Pe q)),VC (ba (Pe q)),Pr (Ox _),Pr (ba (Pe q))];simp
theorem head_cons{p:Tx}{r:List Tx}(hp:p∈cz):ao ((cat (p::r)).take 1) star=ao p star:=by
 obtain⟨c,q,rfl,h,_⟩:=ya p hp;rw[<-h];simp
theorem bN{G:ag}{x:Option Mu}:bq (G++[x]) G.length=x:=by
 unfold bq;rw[Ov (Ox _),P6];cases x<;>rfl
theorem gi{G:ag}{x y:Option Mu}:(G++[x]).set G.length y=G++[y]:=by
 rw[RL _ _ (Ox _),P6];rfl
theorem pj(i:Nat)(S:List Nat):(ez i S).length<=S.length+1:=by unfold ez;split<;>simp
theorem j8 : ∀(r:List Tx) (i:Nat) (S:List Nat),(cl r i S).length<=S.length+r.length+1
 | [],i,S=>by simp only[cl];have:=pj i S;simp;assumption
 |p::r,i,S=>by
  simp only[cl];have h1:=pj i S;have h2:=j8 r (i+1) (ez i S);cases ao p star<;>simp<;>omega
section put
variable{ps:List Tx}{G:ag}{n:Nat}
theorem wx(hp : ∀p∈ps,p∈cz){i:Nat}(hi:i<=ps.length){S:List Nat}(hS : ∀j∈S,j<=ps.length)(hl:S.length<=2000):ku (G++[some (.nd (dy ps S))]) (.d (.int (.ofNat (bd ps i)))) (.d (.bool true)) (.loc G.length)=some (G++[some (.nd (dy ps (ez i S)))]):=by
 have hf:ay ((dy ps S).length+1)=true:=aO (by simp only[dy,Oe];exact ot ‹_›)
 refine(vR bN (m' := .nd (dy ps (ez i S))) ?_).trans (congrArg some gi)
 show cond (ay _) (some (Mu.nd (iX _ _ _))) none=_
 rw[hf,uG hp hi hS];rfl
theorem wz{i:Nat}(hi:i<=ps.length){S:List Nat}(hS : ∀j∈S,j<=ps.length): ∀j∈ez i S,j<=ps.length:=fun j hj=>by
 rcases l8.mp hj with rfl | h
 ·exact hi
 ·exact hS j h
theorem I1(hp : ∀p∈ps,p∈cz)(hP:(cat ps).length<=1000): ∀(r:List Tx) (k i:Nat) (S:List Nat),ps.drop i=r->i<=ps.length->r.length<k->(∀j∈S,j<=ps.length)->S.length+r.length<=1000->∃b,
  fO (fun ρ Γ=>(xN.ak 1).wt.ev (calls TT FF n) .free (TG Ao) ρ Γ) (fun ρ Γ=>(xN.ak 1).wb.ex (TG Ao) (calls TT FF n) .free ρ Γ) k [some (.d (.str (cat ps))),some (.d (.int (.ofNat (bd ps i)))),some (.loc G.length)] (G++[some (.nd (dy ps (ez i S)))])
   = .ok .next [some (.d (.str (cat ps))),b,some (.loc G.length)] (G++[some (.nd (dy ps (cl r i S)))])
 | [],k+1,i,S,hd,hi,hk,hS,hl=>by
  refine⟨_,uc (aY (bc (r:=false) (mj rfl rfl rfl (vO hP)) rfl ?_) rfl)⟩
  rw[md,hd];rfl
 |p::r,k+1,i,S,hd,hi,hk,hS,hl=>by
  have hm:p∈ps:=Qj (i:=i) (by rw[hd];simp)
  have ht:(xN.ak 1).wt.ev (calls TT FF n) .free (TG Ao) [some (.d (.str (cat ps))),some (.d (.int (.ofNat (bd ps i)))),some (.loc G.length)] (G++[some (.nd (dy ps (ez i S)))]) = .ok (ao p star) [some (.d (.str (cat ps))),some (.d (.int (.ofNat (bd ps i)))),some (.loc G.length)] (G++[some (.nd (dy ps (ez i S)))]):=by
   refine aY (bc (r:=ao p star) (mj rfl rfl rfl (vO hP)) rfl ?_) rfl
   rw[md,hd];show some (ao _ star)=_
   rw[head_cons (hp p hm)]
  simp only[cl];cases q:ao p star with
  |false=>rw[q] at ht;exact⟨_,uc ht⟩
  |true=>
   rw[q] at ht;have hdl:=d8 hd;have hpe:=bG q;have hbn:bd ps (i+1)=bd ps i+1:=by rw[lX hd,hpe];rfl
   simp only[N6] at hl hk;have h1:=pj i S;obtain⟨b,ih⟩:=I1 hp hP r k (i+1) (ez i S) hdl.2 (ba (cb hdl.1)) (P7 ‹_›) (wz hi hS) (bX h1 hl);rw[hbn] at ih;refine⟨b,uF ht (af (ρ1:=[some (.d (.str (cat ps))),some (.d (.int (.ofNat (bd ps i+1)))),some (.loc G.length)]) (Γ1:=G++[some (.nd (dy ps (ez i S)))]) rfl (af (bo (v := .d (.bool true)) rfl (eP (x := .loc G.length) (y := .d (.int (.ofNat (bd ps i+1)))) rfl rfl (hbn▸wx hp (ba (cb hdl.1)) (wz hi hS) (bX h1 hl)))) rfl)) ih⟩
 |_,0,_,_,_,_,hk,_,_=>vK hk
theorem F5(hp : ∀p∈ps,p∈cz)(hP:(cat ps).length<=1000){i:Nat}{S:List Nat}(hi:i<=ps.length)(hS : ∀j∈S,j<=ps.length)(hl:S.length+ps.length<=900):calls TT FF (n+1) true 30 [.d (.str (cat ps)),.d (.int (.ofNat (bd ps i))),.loc G.length] (G++[some (.nd (dy ps S))]) = .ok (.d .none) (G++[some (.nd (dy ps (cl (ps.drop i) i S)))]):=by
 obtain⟨b,hw⟩:=I1 (n:=n) (G:=G) hp hP (ps.drop i) rounds i S rfl hi (by simp[rounds];lia) hS (by simp;lia)
 refine aH (f:=IL) rfl rfl (kI (ρ:=[some (.d (.str (cat ps))),b,some (.loc G.length)]) ?_)
 exact af (bo (v := .d (.bool true)) rfl (eP (x := .loc G.length) (y := .d (.int (.ofNat (bd ps i)))) rfl rfl (wx hp hi hS (ba hl)))) (af (s:=xN.ak 1) hw rfl)
theorem MQ(hp : ∀p∈ps,p∈cz)(hP:(cat ps).length<=1000){i c:Nat}{p:Tx}{r:List Tx}(hd:ps.drop i=p::r)(hc:c∈chars)(hs:ao p star=false): ∃Γ,calls TT FF (n+3) true 29 [.d (.str (cat ps)),.d (.int (.ofNat (bd ps i))),.d (.str [c])] [] = .ok (.d (.int (cond (tk p c) (.ofNat (bd ps (i+1))) (.negSucc 0)))) Γ:=by
 have hm:p∈ps:=Qj (i:=i) (by rw[hd];simp)
 have h:=iH (iH (DU n) (hp p hm)) hc;rw[hs] at h;have W:Vw (cat ps) p (bd ps i) false:=⟨⟨cat (ps.take i),cat r,by rw[sF ps i,hd];simp,rfl,fun q=>by cases q⟩,aO (bg ‹_›)⟩
 obtain⟨a,h1,h⟩:=aJ (cK h);obtain⟨x,Γ',h2,h3⟩:=lR W TT FF (n+3) _ _ _ [.d (.str (cat ps)),.d (.int (.ofNat (bd ps i))),.d (.str [c])] h1 ⟨_,_,rfl,rfl,_,_,rfl,rfl,_,_,rfl,rfl,rfl⟩;refine⟨Γ',h2.trans (congrArg (fun x=>RG.ok (.d x) Γ') ?_)⟩
 cases q:tk p c with
 |true=>
  rw[q] at h;obtain⟨k,h4,h5⟩:=aJ (cK h);rw[AV.gN h4] at h3;cases h3;rw[lX hd,N2 h5];rfl
 |false=>
  rw[q] at h;obtain⟨k,h4,h5⟩:=aJ (cK h);obtain⟨d,h6,h7⟩:=ai h4;rw[AV.cf h6,D.cP h7,eq_of_beq h5] at h3;cases h3;rfl
end put
section rules
variable{T:Tab}{O:aL}{m:Md}{ρ ρ1 ρ2 UH:aq}{Γ Γ1 Qp S8:ag}{t:Te}{ts:bY}{p:Nat}{r:Res Bool}
theorem jP(h:ts.bL O m T ρ Γ=r):(Te.and ts p).ev O m T ρ Γ=r:=h
theorem G2(h:ts.gD O m T ρ Γ=r):(Te.or ts p).ev O m T ρ Γ=r:=h
theorem xw{b:Bool}(h:t.ev O m T ρ Γ = .ok b ρ1 Γ1):(Te.not t p).ev O m T ρ Γ = .ok (!b) ρ1 Γ1:=br h rfl
theorem nH(h:t.ev O m T ρ Γ = .ok true ρ1 Γ1)(h2:ts.bL O m T ρ1 Γ1=r):(bY.cons t ts).bL O m T ρ Γ=r:=br h h2
theorem sV(h:t.ev O m T ρ Γ = .ok false ρ1 Γ1):(bY.cons t ts).bL O m T ρ Γ = .ok false ρ1 Γ1:=br h rfl
theorem NY(h:t.ev O m T ρ Γ = .ok true ρ1 Γ1):(bY.cons t ts).gD O m T ρ Γ = .ok true ρ1 Γ1:=br h rfl
theorem E4(h:t.ev O m T ρ Γ = .ok false ρ1 Γ1)(h2:ts.gD O m T ρ1 Γ1=r):(bY.cons t ts).gD O m T ρ Γ=r:=br h h2
end rules
theorem dj{O:aL}{k:Nat}{vs:List V}{Γ:ag}{r:RG}(h:O true k vs Γ=r):d4 O .free k false vs Γ=r:=h
theorem last_eq{ps:List Tx}(hp : ∀p∈ps,p∈cz):ao ((cat ps).drop ((cat ps).length-1)) star=jg ps:=by
 rcases List.eq_nil_or_concat ps with rfl | ⟨qs,p,rfl⟩
 ·rfl
 ·rw[List.concat_eq_append] at hp ⊢
  have hm:=hp p (by simp)
  have e1:jg (qs++[p])=ao p star:=by simp[jg]
  rw[e1];have e2:cat (qs++[p])=cat qs++p:=by simp[cat]
  rw[e2];have : ∀p∈cz,p≠[]/\ao (p.drop (p.length-1)) star=ao p star:=by decide
  obtain⟨h1,h2⟩:=this p hm;have hl:0<p.length:=List.length_pos_iff.mpr h1;rw[N1,show(cat qs).length+p.length-1=(cat qs).length+(p.length-1) from Nat.add_sub_assoc hl _,List.drop_append]
  rw[Pr (OH _ _),P1,List.nil_append];exact h2
theorem z4{P:Tx}(h:P.length<=1000):dq (.d (.str P)) (some (.negSucc 0)) none=some (.d (.str (P.drop (P.length-1)))):=by
 show(dn _ _ _).map V.d=_;simp only[OD,dn,aO (show P.length<=16777216 by omega),cond_true,slice,iI,cut]
 congr 3
 rw[Qx (by simp)]
section fits
variable{ps:List Tx}{n:Nat}
noncomputable abbrev kh:av:=(v9.ak 4).wb
noncomputable abbrev yE:av:=(kh.ak 2).wb
noncomputable abbrev gx(ps:List Tx)(a1 a2 a4 a5 a6 a7 a8:Option V):aq:=[some (.d (.str (cat ps))),a1,a2,some (.d (.int (.ofNat (cat ps).length))),a4,a5,a6,a7,a8]
noncomputable abbrev nG(ps:List Tx)(G:ag)(S:List Nat):ag:=G++[some (.nd (dy ps S))]
set_option tactic.hygienic true in
theorem yt(hn:ps.length<=4){c i:Nat}{acc:List Nat}(hi:i<=ps.length)(ha : ∀j∈acc,j<=ps.length):(stepI ps c acc i).length<=acc.length+5/\∀j∈stepI ps c acc i,j<=ps.length:=by
 unfold stepI;split
 ·exact⟨OH _ _,ha⟩
 ·rename_i p r hd
  have hdl:=d8 hd;have h1:=j8 (p::r) i acc;have h2:=j8 r (i+1) acc;simp only[N6] at h1;have m1 : ∀j∈cl (p::r) i acc,j<=ps.length:=fun j hj=>by
   rw[eb] at hj;rcases hj with h | ⟨k,rfl,hk,_⟩
   ·exact ha j h
   ·simp at hk;exact bX (cb hdl.1) hk
  have m2 : ∀j∈cl r (i+1) acc,j<=ps.length:=fun j hj=>by
   rw[eb] at hj;rcases hj with h | ⟨k,rfl,hk,_⟩
   ·exact ha j h
   ·exact bX (cb hdl.1) hk
  cases ao p star with
  |true=>exact⟨by simp;exact jx (cb hdl.1) h1 hn,m1⟩
  |false=>cases tk p c with
   |true=>exact⟨by simp;exact jx (cb hdl.1) h2 hn,m2⟩
   |false=>exact⟨by simp,ha⟩
theorem IG(hp : ∀p∈ps,p∈cz)(hP:(cat ps).length<=1000)(hn:ps.length<=4){c:Nat}(hc:c∈chars){a1 a2 a4 a8:Option V}{G:ag}{i:Nat}{acc:List Nat}(hi:i<=ps.length)(ha : ∀j∈acc,j<=ps.length)(hl:acc.length<=890): ∃b8,yE.ex (TG jh) (calls TT FF (n+3)) .free (gx ps a1 a2 a4 (some (.d (.str [c]))) (some (.loc G.length)) (some (.d (.int (.ofNat (bd ps i))))) a8) (nG ps G acc) = .ok .next (gx ps a1 a2 a4 (some (.d (.str [c]))) (some (.loc G.length)) (some (.d (.int (.ofNat (bd ps i))))) b8) (nG ps G (stepI ps c acc i)):=by
 have h30:=F5 (n:=n+2) (G:=G) hp hP hi ha (bX hl hn);cases hd:ps.drop i with
 |nil=>
  have hie:bd ps i=(cat ps).length:=by
   have:i=ps.length:=RK hi (RR.mp hd);rw[this,ou]
  have e:stepI ps c acc i=acc:=by unfold stepI;rw[hd]
  rw[e];refine⟨a8,af (aw (aY (bc (r:=false) (mj rfl rfl rfl (vO hP)) rfl ?_) rfl) (af (aw (aY (bc (r:=false) rfl rfl ?_) rfl) rfl) rfl)) rfl⟩
  ·rw[md,hd];rfl
  ·show some (!OB (cat ps).length (bd ps i))=some false
   rw[hie,O4.mpr (Ox _)];rfl
 |cons p r=>
  have hm:p∈ps:=Qj (i:=i) (by rw[hd];simp)
  have hdl:=d8 hd;have ht : ∀q,ao p star=q->(yE.ak 0).wt.ev (calls TT FF (n+3)) .free (TG jh) (gx ps a1 a2 a4 (some (.d (.str [c]))) (some (.loc G.length)) (some (.d (.int (.ofNat (bd ps i))))) a8) (nG ps G acc) = .ok q (gx ps a1 a2 a4 (some (.d (.str [c]))) (some (.loc G.length)) (some (.d (.int (.ofNat (bd ps i))))) a8) (nG ps G acc):=fun q hq=>by
   refine aY (bc (r:=q) (mj rfl rfl rfl (vO hP)) rfl ?_) rfl
   rw[md,hd];show some (ao _ star)=_
   rw[head_cons (hp p hm),hq]
  cases q:ao p star with
  |true=>
   have e:stepI ps c acc i=cl (p::r) i acc:=by unfold stepI;rw[hd];simp only[q,cond_true]
   rw[e];rw[hd] at h30;exact⟨a8,af (aV (ht _ q) (af (eM (v := .d .none) (az (ad:=371) rfl rfl rfl (dj h30) rfl) rfl) rfl)) rfl⟩
  |false=>
   obtain⟨XY,hb⟩:=MQ (n:=n) hp hP hd hc q;have hlt:bd ps i<(cat ps).length:=by
    have:=mf hp (show i<i+1 by omega) (by omega)
    have h2:bd ps (i+1)<=(cat ps).length:=by
     rw[<-ou];rcases Nat.lt_or_ge (i+1) ps.length with h | h
     ·exact Oy (mf hp h (Ox _))
     ·rw[show i+1=ps.length by lia];exact Ox _
    exact N0 ‹_› ‹_›
   have hlt2:OB (cat ps).length (bd ps i)=false:=by
    cases h:OB (cat ps).length (bd ps i) with
    |false=>rfl
    |true=>have:=N9 h;exact kn this hlt
   refine⟨some (.d (.int (cond (tk p c) (.ofNat (bd ps (i+1))) (.negSucc 0)))),af (aw (ht _ q) (af (aV (aY (bc (r:=true) rfl rfl (by show some (!OB (cat ps).length (bd ps i))=_;rw[hlt2];rfl)) rfl) (af (aW (az (vs:=[.d (.str (cat ps)),.d (.int (.ofNat (bd ps i))),.d (.str [c])]) (ad:=364) rfl rfl rfl (aN rfl hb) rfl)) ?_)) rfl)) rfl⟩
   have h30':=F5 (n:=n+2) (G:=G) hp hP (i:=i+1) (S:=acc) (ba (cb hdl.1)) ha (bX hl hn);rw[hdl.2] at h30';cases q2:tk p c with
   |true=>
    have e:stepI ps c acc i=cl r (i+1) acc:=by unfold stepI;rw[hd];simp only[q,cond_false,q2,cond_true]
    rw[e];exact af (aV rfl (af (eM (v := .d .none) (az (ad:=371) rfl rfl rfl (dj h30') rfl) rfl) rfl)) rfl
   |false=>
    have e:stepI ps c acc i=acc:=by unfold stepI;rw[hd];simp only[q,cond_false,q2]
    rw[e];exact af (aw rfl rfl) rfl
theorem K3(hp : ∀p∈ps,p∈cz)(hP:(cat ps).length<=1000)(hn:ps.length<=4){c:Nat}(hc:c∈chars){a1 a2 a4:Option V}{G:ag}(S:List Nat): ∀(acc:List Nat) (a7 a8:Option V),(∀j∈S,j<=ps.length)->(∀j∈acc,j<=ps.length)->acc.length+5 * S.length<=890->∃b7 b8,
  bO (fun v ρ Γ=>((kh.ak 2).ft.bC (calls TT FF (n+3)) .free (TG jh) v ρ Γ).bind fun _ ρ Γ=>yE.ex (TG jh) (calls TT FF (n+3)) .free ρ Γ) (S.map fun i => .d (.int (.ofNat (bd ps i)))) (gx ps a1 a2 a4 (some (.d (.str [c]))) (some (.loc G.length)) a7 a8) (nG ps G acc)
   = .ok .next (gx ps a1 a2 a4 (some (.d (.str [c]))) (some (.loc G.length)) b7 b8) (nG ps G (S.foldl (stepI ps c) acc)):=by
 induction S with
 |nil=>exact fun acc a7 a8 _ _ _=>⟨a7,a8,rfl⟩
 |cons i S ih=>
  intro acc a7 a8 hS ha hl;rw[N6] at hl;have hi:=hS i (.head _);have hs:=yt (c:=c) hn hi ha;obtain⟨b8,h⟩:=IG (n:=n) (a1:=a1) (a2:=a2) (a4:=a4) (a8:=a8) (G:=G) hp hP hn hc hi ha (ba hl);obtain⟨c7,c8,ih⟩:=ih (stepI ps c acc i) (some (.d (.int (.ofNat (bd ps i))))) b8 (fun j hj=>hS j (.tail _ hj)) hs.2 (bX hs.1 hl)
  exact⟨c7,c8,bW h ih⟩
set_option tactic.hygienic true in
theorem w5(hn:ps.length<=4)(c:Nat)(acc:List Nat)(i:Nat):(stepI ps c acc i).length<=acc.length+5:=by
 unfold stepI;split
 ·exact OH _ _
 ·rename_i p r hd
  have hdl:=d8 hd;have h1:=j8 (p::r) i acc;have h2:=j8 r (i+1) acc;simp only[N6] at h1;cases ao p star with
  |true=>simp;exact jx (cb hdl.1) h1 hn
  |false=>cases tk p c<;>simp<;>exact jx (cb hdl.1) h2 hn
theorem sr(hn:ps.length<=4)(c:Nat): ∀(S acc:List Nat),(S.foldl (stepI ps c) acc).length<=acc.length+5 * S.length
 | [],acc=>by simp
 |i::S,acc=>by
  have h1:=sr hn c S (stepI ps c acc i);have h2:=w5 hn c acc i;simp only[RE,N6];exact bX h2 h1
theorem CX{G:ag}{x y:Option Mu}:bq (G++[x]++[y]) G.length=x:=by
 unfold bq;rw[Oh,Ov (Ox _),P6];cases x<;>rfl
theorem B2{G:ag}{x y z:Option Mu}:(G++[x]++[y]).set G.length z=G++[z]++[y]:=by
 rw[Oh,RL _ _ (Ox _),P6,Oh];rfl
theorem ri(hp : ∀p∈ps,p∈cz)(hP:(cat ps).length<=1000){S:List Nat}(hSl : ∀j∈S,j<=ps.length){a1 a6 a7 a8:Option V}{G:ag}{c:Nat}{q:Bool}(hq:(jg ps&&decide (ps.length-1∈S))=q):(kh.ak 0).wt.ev (calls TT FF (n+3)) .free (TG jh) (gx ps a1 (some (.d (.bool false))) (some (.loc G.length)) (some (.d (.str [c]))) a6 a7 a8) (nG ps G S) = .ok q (gx ps a1 (some (.d (.bool false))) (some (.loc G.length)) (some (.d (.str [c]))) a6 a7 a8) (nG ps G S):=by
 have h1 : ∀e,jg ps=e->iG (nG ps G S) .Eq (.d (.str ((cat ps).drop ((cat ps).length-1)))) (.d (.str star))=some e:=fun e he=>by
  show some (ao _ star)=_
  rw[last_eq hp,he]
 cases he:jg ps with
 |false=>
  rw[he] at hq;simp only[S5] at hq;subst hq;exact jP (sV (aY (bc (r:=false) (gP (i := .negSucc 0) rfl rfl (z4 hP)) rfl (h1 _ he)) rfl))
 |true=>
  rw[he] at hq;simp only[Rm] at hq;have hps:0<ps.length:=by
   rcases ps with _ | ⟨p,r⟩
   ·injection he
   ·simp
  obtain⟨k,hk⟩ : ∃k,ps.length=k+1:=⟨ps.length-1,(Sb hps).symm⟩;have hb:(cat ps).length=bd ps k+1:=by
   cases hd:ps.drop k with
   |nil=>exact kn (RR.mp hd) (pJ hk)
   |cons p r=>
    have hr:r=[]:=by have:=(d8 hd).1;cases r with | nil=>rfl | cons=>simp at this;exact kn (cb this) (cb hk)
    have hpe:p=star:=by
     subst hr;have:ps.getLast?=some p:=by
      rw[List.getLast?_eq_getElem?,hk,Nat.add_sub_cancel]
      have:=congrArg (·[0]?) hd;simpa using this
     unfold jg at he;rw[this] at he;exact bG he
    have:=lX hd;rw[<-ou,hk,this,hpe];rfl
  refine jP (nH (aY (bc (r:=true) (gP (i := .negSucc 0) rfl rfl (z4 hP)) rfl (h1 _ he)) rfl) (?_:bY.bL _ _ (bY.cons _ .nil) _ _ _=_))
  have hin:(Te.val (.cmp .In (.bin .Sub (.var 3 0) (.int 1 0) 0) (.var 4 0) 0)).ev (calls TT FF (n+3)) .free (TG jh) (gx ps a1 (some (.d (.bool false))) (some (.loc G.length)) (some (.d (.str [c]))) a6 a7 a8) (nG ps G S) = .ok q (gx ps a1 (some (.d (.bool false))) (some (.loc G.length)) (some (.d (.str [c]))) a6 a7 a8) (nG ps G S):=by
   refine aY (bc (u := .d (.int (.ofNat (bd ps k)))) (r:=q) (aC (x := .int (.ofNat (cat ps).length)) (y := .int (.ofNat 1)) rfl rfl ?_) rfl ?_) rfl
   ·rw[hb]
    refine congrArg (fun z=>some (D.int z)) (?_:OO (bd ps k+1)-OO 1=OO (bd ps k))
    show((bd ps k+1:Nat):Int)-((1:Nat):Int)=(bd ps k:Int)
    lia
   ·show xG (nG ps G S) (.d (.int (.ofNat (bd ps k)))) (.loc G.length)=some q
    show(bq _ G.length).bind _=_
    rw[bN];show some (dK _ _).isSome=_
    rw[nc hp (show k<=ps.length from ba (pJ hk)) hSl]
    rw[show ps.length-1=k from hk▸rfl] at hq
    rw[hq]
  cases q with
  |true=>exact nH hin rfl
  |false=>exact sV hin
inductive M7(ps:List Tx)(a1:Option V)(f:Bool)(R:Res Fl):Prop
 |ret (ρ:aq) (Γ:ag) (e:R = .ok (.ret (.d (.bool f))) ρ Γ)
 |next (S:List Nat) (G:ag) (b5 b6 b7 b8:Option V) (e:R = .ok .next (gx ps a1 (some (.d (.bool false))) (some (.loc G.length)) b5 b6 b7 b8) (nG ps G S)) (h : ∀j∈S,j<=ps.length) (hf:decide (ps.length∈S)=f)
theorem x7(hp : ∀p∈ps,p∈cz)(hP:(cat ps).length<=1000)(hn:ps.length<=4){a1:Option V}(t:Tx): ∀(S:List Nat) (G:ag) (a5 a6 a7 a8:Option V),(∀c∈t,c∈chars)->jG ps S->S.length * 5^t.length<=800->
  M7 ps a1 (ng ps S t) (bO (fun v ρ Γ=>((v9.ak 4).ft.bC (calls TT FF (n+3)) .free (TG jh) v ρ Γ).bind fun _ ρ Γ=>kh.ex (TG jh) (calls TT FF (n+3)) .free ρ Γ) (t.map fun c => .d (.str [c])) (gx ps a1 (some (.d (.bool false))) (some (.loc G.length)) a5 a6 a7 a8) (nG ps G S)):=by
 induction t with
 |nil=>exact fun S G a5 a6 a7 a8 hc hS hl => .next S G a5 a6 a7 a8 rfl (fun j hj=>(hS j hj).1) rfl
 |cons c t ih=>
  intro S G a5 a6 a7 a8 hc hS hl;have hcc:=hc c (by simp)
  have hSl : ∀j∈S,j<=ps.length:=fun j hj=>(hS j hj).1
  have hl5:5 * S.length<=800:=by
   have:5<=5^(c::t).length:=by
    rw[N6,Xb];have:=Nat.pow_pos (n:=t.length) (show 0<5 by decide);exact ba (eR 5 this)
   have h2:=R3 S.length this;exact bX h2 hl
  have hfl:=sr hn c S [];have hl':(cT ps c S).length * 5^t.length<=800:=by
   have h1:(cT ps c S).length<=5 * S.length:=by simpa [cT] using hfl
   have h2:=Nat.mul_le_mul_right (5^t.length) h1;rw[N6,Xb] at hl;have h3:5 * S.length * 5^t.length=S.length * (5^t.length * 5):=by rw[Xc 5,Nat.mul_assoc,Xc 5]
   exact jx (cb h3) h2 hl
  simp only[ng];cases hq:(jg ps&&decide (ps.length-1∈S)) with
  |true=>exact .ret _ _ (jE (aG (aV (ri hp hP hSl hq) rfl)))
  |false=>
   have hGl:(G++[none]).length=(G++[some (Mu.nd (dy ps S))]).length:=by simp
   obtain⟨b7,b8,hin⟩:=K3 (n:=n) hp hP hn hcc (a1:=a1) (a2:=some (.d (.bool false))) (a4:=some (.d (.gs (dy ps S)))) (G:=G++[none]) S [] a7 a8 hSl (by simp) (by simp;exact bg ‹_›)
   have h2:(kh.ak 1).ex (TG jh) (calls TT FF (n+3)) .free (gx ps a1 (some (.d (.bool false))) (some (.loc G.length)) (some (.d (.str [c]))) a6 a7 a8) (nG ps G S) = .ok .next (gx ps a1 (some (.d (.bool false))) (some (.loc G.length)) (some (.d (.str [c]))) (some (.loc (G++[none]).length)) a7 a8) (G++[some (.nd (dy ps S))]++[some (.nd [])]):=by
    rw[hGl];rfl
   have hfz:Mine.jL (G++[some (.nd (dy ps S))]++[some (.nd [])]) (.loc G.length)=some (.gs (dy ps S),G++[none]++[some (.nd [])]):=by
    rw[rO CX rfl,B2]
   have h3:(kh.ak 2).ex (TG jh) (calls TT FF (n+3)) .free (gx ps a1 (some (.d (.bool false))) (some (.loc G.length)) (some (.d (.str [c]))) (some (.loc (G++[none]).length)) a7 a8) (G++[some (.nd (dy ps S))]++[some (.nd [])]) = .ok .next (gx ps a1 (some (.d (.bool false))) (some (.d (.gs (dy ps S)))) (some (.d (.str [c]))) (some (.loc (G++[none]).length)) b7 b8) (G++[none]++[some (.nd (dy ps (cT ps c S)))]):=by
    refine cJ (fF rfl hfz) (vs:=S.map fun i=>V.d (.int (.ofNat (bd ps i)))) ?_ hin
    exact x8
   have h5:(cT ps c S).length<=5 * S.length:=by simpa [cT] using hfl
   have hfs:ay (dy ps (cT ps c S)).length=true:=aO (by simp only[dy,Oe];exact bg (N0 h5 ‹_›))
   have htr:d9 (G++[none]++[some (.nd (dy ps (cT ps c S)))]) (.loc (G++[none]).length)=some (!(cT ps c S).isEmpty):=by
    show(bq (G++[none]++[some (.nd (dy ps (cT ps c S)))]) (G++[none]).length).bind _=_
    rw[bN];show cond (ay _) _ _=_
    rw[hfs];cases cT ps c S<;>rfl
   simp only[cond_false];cases hq2:(cT ps c S).isEmpty with
   |true=>
    rw[hq2] at htr;exact .ret _ _ (jE (af (aw (ri hp hP hSl hq) rfl) (af h2 (af h3 (aG (aV (xw (b:=false) (aY rfl htr)) rfl))))))
   |false=>
    rw[hq2] at htr;have hclo:jG ps (cT ps c S):=nB S [] (fun i hi=>by simp at hi) hSl
    have hnx:kh.ex (TG jh) (calls TT FF (n+3)) .free (gx ps a1 (some (.d (.bool false))) (some (.loc G.length)) (some (.d (.str [c]))) a6 a7 a8) (nG ps G S) = .ok .next (gx ps a1 (some (.d (.bool false))) (some (.loc (G++[none]).length)) (some (.d (.str [c]))) (some (.loc (G++[none]).length)) b7 b8) (G++[none]++[some (.nd (dy ps (cT ps c S)))]):=
     af (aw (ri hp hP hSl hq) rfl) (af h2 (af h3 (af (aw (xw (b:=true) (aY rfl htr)) rfl) rfl)))
    simp only[cond_false];cases ih (cT ps c S) (G++[none]) (some (.d (.str [c]))) (some (.loc (G++[none]).length)) b7 b8 (fun d hd=>hc d (.tail _ hd)) hclo hl' with
    |ret O3 Γ' h=>exact .ret O3 Γ' (bW hnx h)
    |next S' G' b5 b6 b7' b8' h h4 h5=>exact .next S' G' b5 b6 b7' b8' (bW hnx h) h4 h5
theorem M9(hp : ∀p∈ps,p∈cz)(hP:(cat ps).length<=1000)(hn:ps.length<=4){t:Tx}(hc : ∀c∈t,c∈chars)(ht:t.length<=3): ∃Γ,calls TT FF (n+4) true 31 [.d (.str (cat ps)),.d (.str t)] [] = .ok (.d (.bool (ma ps t))) Γ:=by
 have h30:=F5 (n:=n+2) (G:=[]) hp hP (i:=0) (S:=[]) (by simp +arith only) (by simp) (by simp;exact bg ‹_›)
 have hcl:=j8 ps 0 [];have hC:jG ps (cl ps 0 []):=o8 (fun i hi=>by simp at hi) rfl (by simp +arith only)
 have hb:(cl ps 0 []).length * 5^t.length<=800:=by
  have h1:(cl ps 0 []).length<=5:=by simp at hcl;exact bX hcl hn
  have h2:5^t.length<=5^3:=Nat.pow_le_pow_right (by decide) ht
  exact N0 (Nat.mul_le_mul h1 h2) (by decide)
 have hs : ∀r,(v9.from 4).ex (TG jh) (calls TT FF (n+3)) .free (gx ps (some (.d (.str t))) (some (.d (.bool false))) (some (.loc 0)) none none none none) [some (.nd (dy ps (cl ps 0 [])))]=r->v9.ex (TG jh) (calls TT FF (n+3)) .free [some (.d (.str (cat ps))),some (.d (.str t)),some (.d (.bool false)),none,none,none,none,none,none] []=r:=by
  intro r hr;refine af (ρ1:=[some (.d (.str (cat ps))),some (.d (.str t)),some (.d (.bool false)),none,none,none,none,none,none]) (Γ1:=[]) rfl ?_
  refine af (aW (ρ1:=[some (.d (.str (cat ps))),some (.d (.str t)),some (.d (.bool false)),none,none,none,none,none,none]) (Γ1:=[]) (cv rfl (len_str (bg ‹_›)) rfl)) ?_
  refine af (ρ1:=(gx ps (some (.d (.str t))) (some (.d (.bool false))) (some (.loc 0)) none none none none)) (Γ1:=[some (.nd [])]) rfl ?_
  exact af (eM (v := .d .none) (az (vs:=[.d (.str (cat ps)),.d (.int (.ofNat 0)),.loc 0]) (ad:=371) rfl rfl rfl (dj h30) rfl) rfl) hr
 have hit:dm (.d (.str t))=some (t.map fun c=>V.d (.str [c])):=rfl
 rcases x7 (n:=n) hp hP hn (a1:=some (.d (.str t))) t (cl ps 0 []) [] none none none none hc hC hb with⟨O3,Γ',h⟩ | ⟨S',G',b5,b6,b7,b8,h,h4,h5⟩
 ·rw[uC] at h
  exact⟨Γ',aH (f:=Mine.x7) rfl rfl (aR (hs _ (aG (cJ rfl hit h))))⟩
 ·rw[uC] at h5
  refine⟨_,aH (f:=Mine.x7) rfl rfl (aR (hs _ (af (cJ rfl hit h) (aG (bP (bc rfl rfl ?_))))))⟩
  show xG (nG ps G' S') (.d (.int (.ofNat (cat ps).length))) (.loc G'.length)=some (ma ps t)
  rw[<-ou];show(bq _ G'.length).bind _=_
  rw[bN];show some (dK _ _).isSome=_
  rw[nc hp (Ox _) h4,h5]
end fits
theorem xX{n:Nat}{t:Tx}{a0:Option V}(hc : ∀c∈t,c∈chars)(ht:t.length<=3): ∀(pats:List (List Tx)) (a2:Option V),(∀ps∈pats,(∀p∈ps,p∈cz)/\(cat ps).length<=1000/\ps.length<=4)->
  ∃O3,bO (fun v ρ Γ=>((Fz.ak 0).ft.bC (calls TT FF (n+4)) .free (TG As) v ρ Γ).bind fun _ ρ Γ=>(Fz.ak 0).wb.ex (TG As) (calls TT FF (n+4)) .free ρ Γ) (pats.map fun ps => .d (.str (cat ps))) [a0,some (.d (.str t)),a2] [] = .ok (cond (pats.any fun ps=>ma ps t) (.ret (.d (.bool true))) .next) O3 []:=by
 intro z_
 induction z_ with
 |nil=>
  exact fun a2 _=>⟨_,rfl⟩
 |cons ps pats ih_=>
  intro a2 h;obtain⟨h1,h2,h3⟩:=h ps (by simp)
  obtain⟨Γ',h31⟩:=M9 (n:=n) h1 h2 h3 hc ht;have hev:(Ex.call 31 (.glob 0 0) true (.cons (.var 2 0) (.cons (.var 1 0) .nil)) 0).ev (calls TT FF (n+4)) .free (TG As) [a0,some (.d (.str t)),some (.d (.str (cat ps)))] [] = .ok (.d (.bool (ma ps t))) [a0,some (.d (.str t)),some (.d (.str (cat ps)))] []:=
   az (ad:=386) rfl rfl rfl (aN rfl h31) rfl
  obtain⟨O3,ih⟩:=ih_ (some (.d (.str (cat ps)))) fun q hq=>h q (by simp[hq])
  simp only[Oa,Rk];cases q:ma ps t with
  |true=>
   rw[q] at hev;exact⟨_,jE (aG (aV (aY hev rfl) rfl))⟩
  |false=>
   rw[q] at hev;exact⟨O3,bW (af (aw (aY hev rfl) rfl) rfl) ih⟩
theorem MM(n:Nat){pats:List (List Tx)}{t:Tx}(hc : ∀c∈t,c∈chars)(ht:t.length<=3)(h : ∀ps∈pats,(∀p∈ps,p∈cz)/\(cat ps).length<=1000/\ps.length<=4):calls TT FF (n+5) true 35 [.d (au (pats.map cat)),.d (.str t)] [] = .ok (.d (.bool (pats.any fun ps=>ma ps t))) []:=by
 obtain⟨O3,hf⟩:=xX (n:=n) (a0:=some (.d (au (pats.map cat)))) hc ht pats none h;have hit:dm (.d (au (pats.map cat)))=some (pats.map fun ps=>V.d (.str (cat ps))):=by
  exact congrArg some (Pc.trans Pc)
 cases q:pats.any fun ps=>ma ps t with
 |true=>rw[q] at hf;exact aH (f:=Mine.xX) rfl rfl (aR (aG (cJ rfl hit hf)))
 |false=>rw[q] at hf;exact aH (f:=Mine.xX) rfl rfl (aR (af (cJ rfl hit hf) (aG (bP rfl))))
theorem kX{k:Nat}(h:k<=1000):dm (.d (.eF 0 (.ofNat k) 1))=some (cQ (.ofNat 0) (.ofNat 1) k):=by
 show cond (ay 0&&ay k&&ay 0) _ _=_
 rw[aO (show k<=16777216 by omega),show(k-0+0)/(0+1)=k from XT k]
 rfl
theorem ET(n:Nat){ns:List Int}(h:ns.length<=1000)(j:Nat)(own:Int):calls TT FF (n+1) true 41 [.d (.lst (ns.map .int)),.d (.int (.ofNat j)),.d (.int own)] [] = .ok (.d (.int (ns.getD j own))) []:=by
 refine aH (f:=IW) rfl rfl (aR (ρ:=[some (.d (.lst (ns.map .int))),some (.d (.int (.ofNat j))),some (.d (.int own))]) (aG (bP ?_)))
 have hlt : ∀q,OI j ns.length=q->iG [] .Lt (.d (.int (.ofNat j))) (.d (.int (ns.map D.int).length))=some q:=fun q hq=>by
  show some (!OB (ns.map D.int).length j)=some q
  rw[Oe,<-hq];congr 1;rw[Pz,PT,<-Rx,O4];show¬_<=_↔OB (j+1) ns.length=true
  rw[O4];simp +arith only
 by_cases q:j<ns.length
 ·refine gM (aY (bc (r:=true) rfl (cv rfl (gY (by simp;exact bg ‹_›)) rfl) (hlt _ (O4.mpr q))) rfl) (aM rfl rfl (bB ?_ (by simp;exact bg ‹_›)))
  rw[Oc,N8 q,O8,N8 q];rfl
 ·have hq:OI j ns.length=false:=by
   cases h2:OI j ns.length with
   |false=>rfl
   |true=>exact absurd (cp h2) q
  refine gV (aY (bc (r:=false) rfl (cv rfl (gY (by simp;exact bg ‹_›)) rfl) (hlt _ hq)) rfl) ?_
  rw[O8,List.getElem?_eq_none (Pe ‹_›)];rfl
theorem Ng(n:Nat):calls TT FF (n+1) true 59 [] [] = .ok (.d (au cz)) []:=by kernel_rfl
theorem Gd(z:Int)(Γ:ag): ∃p∈cz,cF Γ (.d (au cz)) (.d (.int (OF z (.ofNat 8))))=some (.d (.str p)):=by
 obtain⟨i,h,hi⟩:=cx z 7;have hl:i<cz.length:=hi;refine⟨cz[i],PB hl,?_⟩
 rw[h];refine bB ?_ (by decide)
 rw[Oc,N8 hl];rfl
noncomputable abbrev km:av:=(Dv.ak 2).wb
noncomputable abbrev yL:av:=(km.ak 3).wb
theorem s8{α:Type}{P:α->Prop}{l:List α}{x:α}(h : ∀y∈l,P y)(hx:P x): ∀y∈l++[x],P y:=fun y hy=>by
 rcases Qq.mp hy with h' | h'
 ·exact h y h'
 ·rw[O7.mp h'];exact hx
theorem rI{α:Type}{l:List α}{x:α}:(l++[x]).length=l.length+1:=by rw[N1];rfl
inductive Mb(a0 a1 a5:Option V)(G:ag)(m:Nat)(R:Res Fl):Prop
 |mk (B:List Tx) (z:Int) (a3:Option V) (e:R = .ok .next [a0,a1,some (.d (.int z)),a3,some (.loc G.length),a5] (G++[some (.list (B.map .str))])) (h : ∀p∈B,p∈cz) (l:B.length=m)
theorem It{n j:Nat}{G:ag}{a0 a1 a5:Option V}{z:Int}{B:List Tx}{p:Tx}(hl:B.length<=100)(hpk:cF (G++[some (.list (B.map .str))]) (.d (au cz)) (.d (.int (OF z (.ofNat 8))))=some (.d (.str p))):
  yL.ex (TG n5) (calls TT FF (n+1)) .free [a0,a1,some (.d (.int z)),some (.d (.int (.ofNat j))),some (.loc G.length),a5] (G++[some (.list (B.map .str))]) = .ok .next [a0,a1,some (.d (.int (Om z (.ofNat 8)))),some (.d (.int (.ofNat j))),some (.loc G.length),a5] (G++[some (.list ((B++[p]).map .str))]):=by
 refine af (dw (l:=B.map .str) (ρ1:=[a0,a1,some (.d (.int z)),some (.d (.int (.ofNat j))),some (.loc G.length),a5]) (Γ1:=G++[some (.list (B.map .str))]) (x := .str p) rfl bN (aM (az (vs:=[]) (ad:=816) rfl rfl rfl (aN rfl (Ng n)) rfl) (aC rfl rfl rfl) hpk) bN (aO (by rw[Oe];exact N0 (QK hl) (by decide)))) ?_
 rw[gi];refine af (aW (ρ1:=[a0,a1,some (.d (.int z)),some (.d (.int (.ofNat j))),some (.loc G.length),a5]) (Γ1:=G++[some (.list ((B++[p]).map .str))]) (v := .d (.int (Om z (.ofNat 8)))) ?_) rfl
 rw[OM];exact aC rfl rfl rfl
theorem MY{n:Nat}{G:ag}{a0 a1 a5:Option V}(k:Nat): ∀(j:Nat) (z:Int) (B:List Tx) (a3:Option V),(∀p∈B,p∈cz)->B.length+k<=100->
  Mb a0 a1 a5 G (B.length+k) (bO (fun v ρ Γ=>((km.ak 3).ft.bC (calls TT FF (n+1)) .free (TG n5) v ρ Γ).bind fun _ ρ Γ=>yL.ex (TG n5) (calls TT FF (n+1)) .free ρ Γ) (cQ (.ofNat j) (.ofNat 1) k) [a0,a1,some (.d (.int z)),a3,some (.loc G.length),a5] (G++[some (.list (B.map .str))])):=by
 induction k with
 |zero=>exact fun j z B a3 hB hl=>⟨B,z,a3,rfl,hB,rfl⟩
 |succ k ih=>
  intro j z B a3 hB hl;obtain⟨p,hp,hpk⟩:=Gd z (G++[some (.list (B.map .str))]);have hk:(B++[p]).length+k=B.length+(k+1):=by rw[rI,Xa];rfl
  obtain⟨B',z',a3',h1,h2,h3⟩:=ih (j+1) (Om z (.ofNat 8)) (B++[p]) (some (.d (.int (.ofNat j)))) (s8 hB hp) (hk▸hl);exact⟨B',z',a3',bW (It (N0 (OH _ _) hl) hpk) h1,h2,h3.trans hk⟩
inductive MI(a0:Option V)(m:Nat)(R:Res Fl):Prop
 |mk (A:List (List Tx)) (z:Int) (G:ag) (a3 a4 a5:Option V) (e:R = .ok .next [a0,some (.loc 0),some (.d (.int z)),a3,a4,a5] (some (.list (A.map au))::G)) (h : ∀ps∈A,(∀p∈ps,p∈cz)/\ps.length<=4) (l:A.length=m)
theorem EP {n j m:Nat} {a0 a4 a5 b3:Option V} {z z2:Int} {A:List (List Tx)} {B:List Tx} {G:ag} (hm:OF (1+OF z (.ofNat 5)) (.ofNat 5) = .ofNat m) (n8:m<5) (hA:A.length<=100)
  (h1:bO (fun v ρ Γ=>((km.ak 3).ft.bC (calls TT FF (n+1)) .free (TG n5) v ρ Γ).bind fun _ ρ Γ=>yL.ex (TG n5) (calls TT FF (n+1)) .free ρ Γ) (cQ (.ofNat 0) (.ofNat 1) m) [a0,some (.loc 0),some (.d (.int (Om z (.ofNat 5)))),some (.d (.int (.ofNat j))),some (.loc (some (Mu.list (A.map au))::G).length),some (.d (.int (1+OF z (.ofNat 5))))] ((some (Mu.list (A.map au))::G)++[some (.list [])]) = .ok .next [a0,some (.loc 0),some (.d (.int z2)),b3,some (.loc (some (Mu.list (A.map au))::G).length),some (.d (.int (1+OF z (.ofNat 5))))] ((some (Mu.list (A.map au))::G)++[some (.list (B.map .str))])) :
  km.ex (TG n5) (calls TT FF (n+1)) .free [a0,some (.loc 0),some (.d (.int z)),some (.d (.int (.ofNat j))),a4,a5] (some (.list (A.map au))::G) = .ok .next [a0,some (.loc 0),some (.d (.int z2)),b3,some (.d (au B)),some (.d (.int (1+OF z (.ofNat 5))))] (some (.list ((A++[B]).map au))::(G++[none])):=by
 refine af (s:=km.ak 0) (ss:=km.from 1) (ρ1:=[a0,some (.loc 0),some (.d (.int z)),some (.d (.int (.ofNat j))),some (.loc (some (Mu.list (A.map au))::G).length),a5]) (Γ1:=(some (.list (A.map au))::G)++[some (.list [])]) rfl ?_
 refine af (aW (ρ1:=[a0,some (.loc 0),some (.d (.int z)),some (.d (.int (.ofNat j))),some (.loc (some (Mu.list (A.map au))::G).length),a5]) (Γ1:=(some (.list (A.map au))::G)++[some (.list [])]) (v := .d (.int (1+OF z (.ofNat 5)))) (aC rfl (aC rfl rfl rfl) rfl)) ?_
 refine af (aW (ρ1:=[a0,some (.loc 0),some (.d (.int z)),some (.d (.int (.ofNat j))),some (.loc (some (Mu.list (A.map au))::G).length),some (.d (.int (1+OF z (.ofNat 5))))]) (Γ1:=(some (.list (A.map au))::G)++[some (.list [])]) (v := .d (.int (Om z (.ofNat 5)))) (aC rfl rfl rfl)) ?_
 refine af (cJ (v := .d (.eF 0 (OF (1+OF z (.ofNat 5)) (.ofNat 5)) 1)) rfl (vs:=cQ (.ofNat 0) (.ofNat 1) m) ?_ h1) ?_
 ·rw[hm];exact kX (N0 (Oy n8) (by decide))
 ·refine af (dw (l:=A.map au) (ρ1:=[a0,some (.loc 0),some (.d (.int z2)),b3,some (.d (au B)),some (.d (.int (1+OF z (.ofNat 5))))]) (Γ1:=(some (.list (A.map au))::G)++[none]) (x:=au B) rfl rfl (fF rfl ?_) rfl (aO (by rw[Oe];exact N0 (QK hA) (by decide)))) ?_
  ·rw[rO bN rfl,gi]
  ·rw[OM];rfl
theorem KH{n:Nat}{a0:Option V}(k:Nat): ∀(j:Nat) (z:Int) (A:List (List Tx)) (G:ag) (a3 a4 a5:Option V),(∀ps∈A,(∀p∈ps,p∈cz)/\ps.length<=4)->A.length+k<=100->
  MI a0 (A.length+k) (bO (fun v ρ Γ=>((Dv.ak 2).ft.bC (calls TT FF (n+1)) .free (TG n5) v ρ Γ).bind fun _ ρ Γ=>km.ex (TG n5) (calls TT FF (n+1)) .free ρ Γ) (cQ (.ofNat j) (.ofNat 1) k) [a0,some (.loc 0),some (.d (.int z)),a3,a4,a5] (some (.list (A.map au))::G)):=by
 induction k with
 |zero=>exact fun j z A G a3 a4 a5 hA hl=>⟨A,z,G,a3,a4,a5,rfl,hA,rfl⟩
 |succ k ih=>
  intro j z A G a3 a4 a5 hA hl;obtain⟨m,hm,n8⟩:=cx (1+OF z (.ofNat 5)) 4;obtain⟨B,z2,b3,h1,h2,h3⟩:=MY (n:=n) (G:=some (.list (A.map au))::G) (a0:=a0) (a1:=some (.loc 0)) (a5:=some (.d (.int (1+OF z (.ofNat 5))))) m 0 (Om z (.ofNat 5)) [] (some (.d (.int (.ofNat j)))) (fun _ h=>nomatch h) (by rw[Pk,Ql];exact N0 (Oy n8) (by decide))
  have hB:B.length<=4:=by rw[h3,Pk,Ql];exact Vn n8
  have hk:(A++[B]).length+k=A.length+(k+1):=by rw[rI,Xa];rfl
  obtain⟨A',z',G',a3',a4',a5',h4,h5,h6⟩:=ih (j+1) z2 (A++[B]) (G++[none]) b3 (some (.d (au B))) (some (.d (.int (1+OF z (.ofNat 5))))) (s8 hA ⟨h2,hB⟩) (hk▸hl);exact⟨A',z',G',a3',a4',a5',bW (EP hm n8 (N0 (OH _ _) hl) h1) h4,h5,h6.trans hk⟩
theorem Mn(n:Nat)(c:Int): ∃(A:List (List Tx)) (Γ:ag),calls TT FF (n+2) true 62 [.d (.int c)] [] = .ok (.d (.lst (A.map au))) Γ/\(∀ps∈A,(∀p∈ps,p∈cz)/\ps.length<=4)/\A.length<=3:=by
 obtain⟨k,hk,hk4⟩:=cx c 3;obtain⟨A,z,G,a3,a4,a5,h1,h2,h3⟩:=KH (n:=n) (a0:=some (.d (.int c))) k 0 (Om c (.ofNat 4)) [] [] none none none (by simp) (by simp;exact bg (Oy ‹_›))
 refine⟨A,none::G,aH (f:=IK) rfl rfl (aR (ρ:=[some (.d (.int c)),some (.d (.lst (A.map au))),some (.d (.int z)),a3,a4,a5]) ?_),h2,by simp at h3;exact bX (cb h3) hk4⟩
 refine af (ρ1:=[some (.d (.int c)),some (.loc 0),none,none,none,none]) (Γ1:=[some (.list [])]) rfl ?_
 refine af (aW (ρ1:=[some (.d (.int c)),some (.loc 0),none,none,none,none]) (Γ1:=[some (.list [])]) (v := .d (.int (Om c (.ofNat 4)))) (aC rfl rfl rfl)) ?_
 refine af (cJ (v := .d (.eF 0 (OF c (.ofNat 4)) 1)) rfl (vs:=cQ (.ofNat 0) (.ofNat 1) k) ?_ h1) (aG (bP (fF rfl rfl)))
 rw[hk];exact kX (bg (Oy ‹_›))
noncomputable abbrev qX:ag:=[some (.inst 679 [(9,.loc 1),(10,.loc 2),(11,.d (.int 40)),(12,.d (.none)),(13,.d (.int 0)),(14,.d (.int 0)),(15,.d (.int 0)),(16,.d (.none)),(17,.d (.none)),(18,.loc 3),(19,.loc 4),(20,.loc 5)]),some (.vd []),some (.sd []),some (.vd []),some (.sd []),some (.sd [])]
noncomputable def kinds:List (Tx×Bool):=[([107,101,121],false),([118,97,108,117,101],true),([107],false),([118,97,108],true)]
noncomputable def full(b:Bool):Tx:=cond b [118,97,108,117,101] [107,101,121]
noncomputable abbrev aZ(raw w:Tx)(pats:List (List Tx)):List Tx:=[100,105,99,116]::[102,105,108,116,101,114]::raw::w::pats.map cat
noncomputable def g8(b:Bool)(q:Tx×Tx):Tx:=cond b q.2 q.1
noncomputable def cS(b:Bool)(pats:List (List Tx))(q:Tx×Tx):Bool:=pats.any fun ps=>ma ps (g8 b q)
theorem jA : ∀x∈atT,(∀c∈x,c∈chars)/\x.length<=3:=by decide
def kb(pats:List (List Tx)):Prop:=(∀ps∈pats,(∀p∈ps,p∈cz)/\ps.length<=4)/\pats.length<=3
theorem Cg : ∀p∈cz,p.length<=5:=by decide
theorem pU : ∀(ps:List Tx),(∀p∈ps,p∈cz)->(cat ps).length<=5 * ps.length
 | [],_=>by simp[cat]
 |p::r,h=>by
  have h1:=Cg p (h p (by simp))
  have h2:=pU r fun q hq=>h q (by simp[hq])
  simp only[cat,Sm,N1,N6] at h2 ⊢;exact bX h2 h1
theorem kb.one{pats:List (List Tx)}(h:kb pats): ∀ps∈pats,(∀p∈ps,p∈cz)/\(cat ps).length<=1000/\ps.length<=4:=fun ps hps=>by
 obtain⟨h1,h2⟩:=h.1 ps hps;have:=pU ps h1;exact⟨h1,bX this (eR 5 h2),h2⟩
theorem c3(n:Nat): ∀q∈kinds,∃Γ,calls TT FF (n+3) true 3 [.d (.str [102,105,108,116,101,114,84,121,112,101]),.d (.str q.1),.d (.tup [.str [107,101,121],.str [115,99,114,105,112,116],.str [118,97,108,117,101]])] [] = .ok (.d (.str (full q.2))) Γ:=by
 intro q hq;simp only[kinds,N7,Ou,or_false] at hq;rcases hq with rfl | rfl | rfl | rfl<;>exact RG.val_eq (by kernel_rfl)
theorem zF{a b c d:D}{l:List D}(h:l.length<=1000):dq (.d (.lst (a::b::c::d::l))) (some (.ofNat 4)) none=some (.d (.lst l)):=by
 have h1:ay (a::b::c::d::l).length=true:=aO (by simp;exact bg ‹_›)
 show(dn _ _ _).map V.d=_;simp only[OD,dn,h1,cond_true,slice,iI,cut]
 rw[show min 4 (a::b::c::d::l).length=4 by simp]
 simp
theorem Dj{G:ag}{K:List (Tx×Tx)}{q:Tx×Tx}(hl:K.length<=1000)(hn:q.1∉K.map Oq):ku (G++[some (.sd (aD K))]) (.d (.str q.1)) (.d (.str q.2)) (.loc G.length)=some (G++[some (.sd (aD (K++[q])))]):=by
 rw[l9 bN (bg ‹_›),gi,jn hn]
section filt
variable{n:Nat}{ps:List (Tx×Tx)}{pats:List (List Tx)}{b:Bool}{raw w:Tx}
noncomputable abbrev gj:av:=(fU.ak 5).wb
theorem uM(hp:kb pats)(hn:(ps.map Oq).Nodup)(ha : ∀p∈ps,p.1∈atT/\p.2∈atT)(hps:ps.length<=10){a0:Option V}{G:ag}: ∀(qs K:List (Tx×Tx)) (a5 a6:Option V),(∀q∈qs,q∈ps)->((K++qs).map Oq).Nodup->K.length+qs.length<=100->∃a5' a6',
  bO (fun v ρ Γ=>((fU.ak 5).ft.bC (calls TT FF (n+5)) .free (TG oA) v ρ Γ).bind fun _ ρ Γ=>gj.ex (TG oA) (calls TT FF (n+5)) .free ρ Γ) (qs.map fun q => .d (.str q.1)) [a0,some (.d (au (aZ raw w pats))),some (.d (.str (full b))),some (.d (.bH (aD ps))),some (.loc G.length),a5,a6] (G++[some (.sd (aD K))])
   = .ok .next [a0,some (.d (au (aZ raw w pats))),some (.d (.str (full b))),some (.d (.bH (aD ps))),some (.loc G.length),a5',a6'] (G++[some (.sd (aD (K++qs.filter (cS b pats))))]):=by
 intro z_
 induction z_ with
 |nil=>
  exact fun K a5 a6 _ _ _=>⟨a5,a6,by simp only[List.filter_nil,OE];rfl⟩
 |cons q qs ih_=>
  intro K a5 a6 hq hk hl;have hqm:=hq q (by simp)
  have hat:=ha q hqm;have hlk:=kO (k:=q.1) (v:=q.2) hn hqm;simp only[N6] at hl;have hsel:(gj.ak 1).ex (TG oA) (calls TT FF (n+5)) .free [a0,some (.d (au (aZ raw w pats))),some (.d (.str (full b))),some (.d (.bH (aD ps))),some (.loc G.length),some (.d (.str q.1)),some (.d (.str q.1))] (G++[some (.sd (aD K))]) = .ok .next [a0,some (.d (au (aZ raw w pats))),some (.d (.str (full b))),some (.d (.bH (aD ps))),some (.loc G.length),some (.d (.str q.1)),some (.d (.str (g8 b q)))] (G++[some (.sd (aD K))]):=by
   cases b with
   |false=>exact aw rfl rfl
   |true=>exact aV rfl (af (aW (v := .d (.str q.2)) (aM (u := .d (.bH (aD ps))) (v := .d (.str q.1)) rfl rfl (kC hlk))) rfl)
  have hx:g8 b q∈atT:=by
   cases b with
   |false=>exact hat.1
   |true=>exact hat.2
  have h35:=MM n (pats:=pats) (jA _ hx).1 (jA _ hx).2 hp.one;have hw:(gj.ak 2).wt.ev (calls TT FF (n+5)) .free (TG oA) [a0,some (.d (au (aZ raw w pats))),some (.d (.str (full b))),some (.d (.bH (aD ps))),some (.loc G.length),some (.d (.str q.1)),some (.d (.str (g8 b q)))] (G++[some (.sd (aD K))]) = .ok (cS b pats q) [a0,some (.d (au (aZ raw w pats))),some (.d (.str (full b))),some (.d (.bH (aD ps))),some (.loc G.length),some (.d (.str q.1)),some (.d (.str (g8 b q)))] (G++[some (.sd (aD K))]):=by
   have:=hp.2;exact aY (az (vs:=[.d (au (pats.map cat)),.d (.str (g8 b q))]) (ad:=414) rfl (aj (gP rfl rfl (zF (by simp;exact bg ‹_›))) (aj rfl rfl)) rfl (aN rfl h35) rfl) rfl
  have hkn:q.1∉K.map Oq:=by
   rw[OM,Qf] at hk;exact fun h=>hk.2.2 _ h _ (by simp) rfl
  cases hg:cS b pats q with
  |true=>
   rw[hg] at hw;obtain⟨a5',a6',ih⟩:=ih_ (K++[q]) (some (.d (.str q.1))) (some (.d (.str (g8 b q)))) (fun r hr=>hq r (by simp[hr])) (by simpa using hk) (by simp;exact ba hl)
   refine⟨a5',a6',bW (ρ1:=[a0,some (.d (au (aZ raw w pats))),some (.d (.str (full b))),some (.d (.bH (aD ps))),some (.loc G.length),some (.d (.str q.1)),some (.d (.str (g8 b q)))]) (Γ1:=G++[some (Mu.sd (aD (K++[q])))]) ?_ (ih.trans (by rw[Rv hg];simp))⟩
   show gj.ex (TG oA) (calls TT FF (n+5)) .free [a0,some (.d (au (aZ raw w pats))),some (.d (.str (full b))),some (.d (.bH (aD ps))),some (.loc G.length),some (.d (.str q.1)),a6] (G++[some (.sd (aD K))])=_
   refine af (s:=gj.ak 0) (ss:=gj.from 1) rfl (af (s:=gj.ak 1) (ss:=gj.from 2) hsel (af (s:=gj.ak 2) (ss := .nil) (aV hw (af (bo (v := .d (.str q.2)) (aM (u := .d (.bH (aD ps))) (v := .d (.str q.1)) rfl rfl (kC hlk)) (eP rfl rfl (Dj (ba hl) hkn))) rfl)) rfl))
  |false=>
   rw[hg] at hw;obtain⟨a5',a6',ih⟩:=ih_ K (some (.d (.str q.1))) (some (.d (.str (g8 b q)))) (fun r hr=>hq r (by simp[hr])) (by
    rw[OM,Oa,Qf] at hk;rw[OM,Qf];exact⟨hk.1,(Py.mp hk.2.1).2,fun x hx y hy=>hk.2.2 x hx y (by simp[hy])⟩) (Oy ‹_›)
   refine⟨a5',a6',bW (ρ1:=[a0,some (.d (au (aZ raw w pats))),some (.d (.str (full b))),some (.d (.bH (aD ps))),some (.loc G.length),some (.d (.str q.1)),some (.d (.str (g8 b q)))]) (Γ1:=G++[some (Mu.sd (aD K))]) ?_ (ih.trans (by rw[Rw (by simp[hg])]))⟩
   show gj.ex (TG oA) (calls TT FF (n+5)) .free [a0,some (.d (au (aZ raw w pats))),some (.d (.str (full b))),some (.d (.bH (aD ps))),some (.loc G.length),some (.d (.str q.1)),a6] (G++[some (.sd (aD K))])=_
   exact af (s:=gj.ak 0) (ss:=gj.from 1) rfl (af (s:=gj.ak 1) (ss:=gj.from 2) hsel (af (s:=gj.ak 2) (ss := .nil) (aw hw rfl) rfl))
end filt
section good
variable{r:List Ch}{ds:List (Tx×Tx)}{pats:List (List Tx)}
structure GoodR(r:List Ch)(ds:List (Tx×Tx)):Prop where
 ok:gK r
 fl:r.map (fun c=>c.2.1)=flat ds
 at_ : ∀d∈ds,d.1∈atT/\d.2∈atT
 len:(ax r).length<=80
 I4:ds.length<=4
theorem rD{k v:Tx}: ∀{l:List (Tx×Tx)},(∀p∈l,p.1∈atT/\p.2∈atT)->k∈atT->v∈atT->∀p∈aQ k v l,p.1∈atT/\p.2∈atT
 | [],_,h1,h2,p,hp=>by simp only[fL,fN,N7,Ou,or_false] at hp;subst hp;exact⟨h1,h2⟩
 |x::l,h,h1,h2,p,hp=>by
  simp only[fL,fN] at hp;have hx:=h x (by simp)
  cases q:ao k x.1 with
  |true=>
   rw[q,cond_true,N7] at hp;rcases hp with rfl | hp
   ·exact⟨hx.1,h2⟩
   ·exact h p (by simp[hp])
  |false=>
   rw[q,cond_false,N7] at hp;rcases hp with rfl | hp
   ·exact hx
   ·exact rD (fun y hy=>h y (by simp[hy])) h1 h2 p hp
theorem p6 : ∀{ds acc:List (Tx×Tx)},(∀p∈acc,p.1∈atT/\p.2∈atT)->(∀p∈ds,p.1∈atT/\p.2∈atT)->∀p∈putAll acc ds,p.1∈atT/\p.2∈atT
 | [],acc,h,_,p,hp=>h p hp
 |d::ds,acc,h,h2,p,hp=>p6 (ds:=ds) (acc:=aQ d.1 d.2 acc) (rD h (h2 d (by simp)).1 (h2 d (by simp)).2) (fun q hq=>h2 q (by simp[hq])) p hp
noncomputable abbrev bJ(ds:List (Tx×Tx)):List (Tx×Tx):=putAll [] ds
theorem GoodR.nd(g:GoodR r ds):((bJ ds).map Oq).Nodup:=jb ds [] (by simp)
theorem GoodR.dR(g:GoodR r ds): ∀p∈bJ ds,p.1∈atT/\p.2∈atT:=p6 (by simp) g.at_
theorem GoodR.pl(g:GoodR r ds):(bJ ds).length<=4:=by have h1:=kQ ds [];have h2:=g.I4;simp at h1;show(putAll [] ds).length<=4;exact N0 ‹_› ‹_›
theorem GoodR.AI(g:GoodR r ds)(n:Nat):calls TT FF (n+7) true 26 [.d (.str (ax r))] [] = .ok (.d (.bH (aD (bJ ds)))) [none]:=
 Pl.AI g.ok (by have:=g.len;exact bg ‹_›) g.fl (by have:=g.I4;exact bg ‹_›) n
noncomputable abbrev gg(ps:List (Tx×Tx)):Tx:=bU [32] (outs 0 (flat ps))
theorem xP{l:List (Tx×Tx)}{f:Tx×Tx->Bool}(h:(l.map Oq).Nodup):((l.filter f).map Oq).Nodup:=
 YI (XU _ List.filter_sublist) h
theorem Gw(raw w:Tx)(pats:List (List Tx)):mV (.ofNat 4) (((aZ raw w pats).map D.str).length:Int)=true:=by
 show OB 4 _=true
 rw[O4];simp
theorem Lr(n:Nat)(g:GoodR r ds)(hp:kb pats){q:Tx×Bool}(hq:q∈kinds)(h:V)(G:ag):calls TT FF (n+8) true 36 [h,.d (au (aZ (ax r) q.1 pats))] G = .ok (.d (.str (gg ((bJ ds).filter (cS q.2 pats))))) (G++[none]):=by
 obtain⟨S8,h3⟩:=c3 (n+4) q hq;have h26:=g.AI n;obtain⟨a5,a6,hlp⟩:=Pl.uM (n:=n+2) (b:=q.2) (raw:=ax r) (w:=q.1) hp g.nd g.dR (by have:=g.pl;exact bg ‹_›) (a0:=some h) (G:=G) (bJ ds) [] none none (fun _ h=>h) (by simpa using g.nd) (by have:=g.pl;simp;exact bg ‹_›)
 obtain⟨Xy,h27⟩:=Gx (n+2) (ps:=(bJ ds).filter (cS q.2 pats)) (xP g.nd) (fun p hp=>g.dR p (VD.mp hp).1) (by have:=g.pl;have:=Ub (cS q.2 pats) (bJ ds);exact bg (N0 ‹_› ‹_›))
 have hpl:=hp.2;refine aH (f:=Mine.uM) rfl rfl (aR (ρ:=[some h,some (.d (au (aZ (ax r) q.1 pats))),some (.d (.str (full q.2))),some (.d (.bH (aD (bJ ds)))),some (.d (.bH (aD ((bJ ds).filter (cS q.2 pats))))),a5,a6]) ?_)
 refine af (s:=fU.ak 0) (ss:=fU.from 1) (ρ1:=[some h,some (.d (au (aZ (ax r) q.1 pats))),none,none,none,none,none]) (Γ1:=G) (aw (aY (bc (r:=false) (cv rfl (gY (by simp;exact bg ‹_›)) rfl) rfl (by show some (!mV _ _)=some false;exact congrArg (fun b=>some (!b)) (Gw (ax r) q.1 pats))) rfl) rfl) ?_
 refine af (s:=fU.ak 1) (ss:=fU.from 2) (ρ1:=[some h,some (.d (au (aZ (ax r) q.1 pats))),some (.d (.str (full q.2))),none,none,none,none]) (Γ1:=G) (aW (ρ1:=[some h,some (.d (au (aZ (ax r) q.1 pats))),none,none,none,none,none]) (az (ad:=160) rfl (aj rfl (aj (aM (u := .d (au (aZ (ax r) q.1 pats))) (v := .d (.int (.ofNat 3))) rfl rfl (bB rfl (by simp;exact bg ‹_›))) (aj rfl rfl))) rfl (aN rfl h3) rfl)) ?_
 refine af (s:=fU.ak 2) (ss:=fU.from 3) (ρ1:=[some h,some (.d (au (aZ (ax r) q.1 pats))),some (.d (.str (full q.2))),none,none,none,none]) (Γ1:=G) ?_ ?_
 ·cases q.2<;>exact aw rfl rfl
 refine af (s:=fU.ak 3) (ss:=fU.from 4) (ρ1:=[some h,some (.d (au (aZ (ax r) q.1 pats))),some (.d (.str (full q.2))),some (.d (.bH (aD (bJ ds)))),none,none,none]) (Γ1:=G) (aW (ρ1:=[some h,some (.d (au (aZ (ax r) q.1 pats))),some (.d (.str (full q.2))),none,none,none,none]) (az (ad:=343) rfl (aj (aM (u := .d (au (aZ (ax r) q.1 pats))) (v := .d (.int (.ofNat 2))) rfl rfl (bB rfl (by simp;exact bg ‹_›))) rfl) rfl (aN rfl h26) rfl)) ?_
 refine af (s:=fU.ak 4) (ss:=fU.from 5) (ρ1:=[some h,some (.d (au (aZ (ax r) q.1 pats))),some (.d (.str (full q.2))),some (.d (.bH (aD (bJ ds)))),some (.loc G.length),none,none]) (Γ1:=G++[some (.sd [])]) rfl ?_
 refine af (s:=fU.ak 5) (ss:=fU.from 6) (cJ (v := .d (.bH (aD (bJ ds)))) rfl (vs:=(bJ ds).map fun(x:Tx×Tx)=>V.d (D.str x.1)) (lB) hlp) ?_
 refine aG (bP (fe (ad:=350) (ρ1:=[some h,some (.d (au (aZ (ax r) q.1 pats))),some (.d (.str (full q.2))),some (.d (.bH (aD (bJ ds)))),some (.d (.bH (aD ((bJ ds).filter (cS q.2 pats))))),a5,a6]) (Γ1:=G++[none]) rfl (aj (fF rfl ?_) rfl) rfl (aN rfl h27) rfl))
 rw[rO bN rfl,gi];rfl
theorem LP(n:Nat)(g:GoodR r ds)(hp:kb pats){q:Tx×Bool}(hq:q∈kinds)(h:V)(G:ag):calls TT FF (n+9) true 51 [h,.d (au (aZ (ax r) q.1 pats))] G = .ok (.d (.tup [.int 0,.str (gg ((bJ ds).filter (cS q.2 pats)))])) (G++[none]):=by
 refine aH (f:=Af) rfl rfl (aR (ρ:=[some h,some (.d (au (aZ (ax r) q.1 pats))),none]) (aG (oz (aG (bP (d5 (vs:=[.d (.int 0),.d (.str (gg ((bJ ds).filter (cS q.2 pats))))]) (aj rfl (aj ?_ rfl)) rfl rfl))))))
 exact az (vs:=[h,.d (au (aZ (ax r) q.1 pats))]) (ad:=421) rfl rfl rfl (dj (Lr n g hp hq h G)) rfl
theorem E5(n:Nat){ps:List Tx}{t:Tx}(h:(∀p∈ps,p∈cz)/\ps.length<=4)(hc : ∀c∈t,c∈chars)(ht:t.length<=100): ∃Γ,calls TT FF (n+5) true 61 [.d (au ps),.d (.str t)] [] = .ok (.d (.bool (ma ps t))) Γ:=by
 have:=NG ps (n+4-ps.length) t h.1 hc (ba h.2) ht;have h2:=h.2;rwa [show n+4-ps.length+ps.length+1=n+5 from congrArg (· + 1) (Sb (N0 h2 (Qa 4 n)))] at this
end good
section rules
variable{T:Tab}{O:aL}{m:Md}{ρ ρ1 ρ2 UH:aq}{Γ Γ1 Qp S8:ag}{u w:V}
theorem zS{s:Tx}{xs:List Tx}{i p p0 p1 p2:Nat}(h1:ρ[i]?=some (some (.d (.lst (xs.map .str)))))(h3:(bU s xs).length+s.length<=1000):(Ex.jz (.str s p0) .join (.cons (.var i p) .nil) p1 p2).ev O m T ρ Γ = .ok (.d (.str (bU s xs))) ρ Γ:=by
 have hf:ay ((bU s xs).length+s.length)=true:=aO (bg ‹_›);refine jH (x := .d (.str s)) rfl rfl (aj (sZ h1) rfl) ?_
 show(strsOf (xs.map .str)).bind _=_
 rw[kE];show cond (ay ((bU s xs).length+s.length)) _ _=_
 rw[hf];rfl
theorem pV{a hi:Ex}{i:Int}{p p1:Nat}(h1:a.ev O m T ρ Γ = .ok u ρ1 Γ1)(h2:hi.ev O m T ρ1 Γ1 = .ok (.d (.int i)) ρ2 Qp)(h3:dq u none (some i)=some w):(Ex.pQ a hi p p1).ev O m T ρ Γ = .ok w ρ2 Qp:=by
 exact br h1 (br h2 (opt h3))
end rules
theorem join_nil : ∀xs:List Tx,bU [] xs=cat xs
 | []=>rfl
 | [x]=>by simp[eI,eO,eN,cat]
 |x::y::r=>by simp only[eI,eO,eN,join_nil (y::r)];simp[cat]
noncomputable def bZ:List Tx:=[[107,101,121],[118,97,108,117,101],[107],[118,97,108],[],[107,101,121,115],[119]]
noncomputable abbrev je:av:=eU.from 5
noncomputable abbrev lH(ns:List Int)(raw:Tx)(P:D)(c6:Int)(kw:Tx)(A:List (List Tx))(ws:List Tx):aq:=[some (.d (.lst (ns.map .int))),some (.d (.str raw)),some (.d P),some (.d (.int c6)),some (.d (.str kw)),some (.d (.lst (A.map au))),some (.d (au ws)),none,none,none]
theorem vg{a b c:D}{l:List D}(h:l.length<=1000):dq (.d (.lst (a::b::c::l))) none (some (.ofNat 3))=some (.d (.lst [a,b,c]))/\dq (.d (.lst (a::b::c::l))) none (some (.ofNat 2))=some (.d (.lst [a,b])):=by
 have h1:ay (a::b::c::l).length=true:=aO (by simp;exact bg ‹_›)
 constructor
 ·show(dn _ _ _).map V.d=_;simp only[OD,dn,h1,cond_true,slice,iI,cut]
  rw[show min 3 (a::b::c::l).length=3 by simp];rfl
 ·show(dn _ _ _).map V.d=_;simp only[OD,dn,h1,cond_true,slice,iI,cut]
  rw[show min 2 (a::b::c::l).length=2 by simp];rfl
theorem K8(n:Nat){ns:List Int}(hns:ns.length<=63)(raw:Tx)(P:D): ∃kw∈bZ,∃A,kb A/\∃ws c6,(ws=aZ raw kw A\/ws=[[100,105,99,116],[102,105,108,116,101,114],raw]\/ws=[[100,105,99,116],[102,105,108,116,101,114]])/\
  ∀r,je.ex (TG jt) (calls TT FF (n+2)) .free (lH ns raw P c6 kw A ws) []=r->eU.ex (TG jt) (calls TT FF (n+2)) .free [some (.d (.lst (ns.map .int))),some (.d (.str raw)),some (.d P),none,none,none,none,none,none,none] []=r:=by
 have h41:=fun j own=>ET (n+1) (ns:=ns) (bg ‹_›) j own
 obtain⟨i,hi,hi7⟩:=cx (ns.getD 6 0) 6;have hl:i<bZ.length:=hi7;obtain⟨A,YY,h62,hA1,hA2⟩:=Mn n (ns.getD 7 (2+(4 * (1+(5 * (1+(8 * (0+(8 * (0+(5 * 5)))))))))));obtain⟨k,hk,hk2⟩:=cx (Om (ns.getD 6 0) (.ofNat 56)) 1;have hlen : ∀ps∈A,(cat ps).length<=20:=fun ps hps=>bX (pU ps (hA1 ps hps).1) (eR 5 (hA1 ps hps).2)
 have hcut : ∃ws,(ws=aZ raw bZ[i] A\/ws=[[100,105,99,116],[102,105,108,116,101,114],raw]\/ws=[[100,105,99,116],[102,105,108,116,101,114]])/\(eU.ak 4).ex (TG jt) (calls TT FF (n+2)) .free (lH ns raw P (ns.getD 6 0) bZ[i] A (aZ raw bZ[i] A)) [] = .ok .next (lH ns raw P (ns.getD 6 0) bZ[i] A ws) []:=by
  have ht : ∀q,gw (OF (Om (ns.getD 6 0) (.ofNat 7)) (.ofNat 8)) (.ofNat 7)=q->(eU.ak 4).wt.ev (calls TT FF (n+2)) .free (TG jt) (lH ns raw P (ns.getD 6 0) bZ[i] A (aZ raw bZ[i] A)) [] = .ok q (lH ns raw P (ns.getD 6 0) bZ[i] A (aZ raw bZ[i] A)) []:=fun q hq=>
   aY (bc (aC (aC rfl rfl rfl) rfl rfl) rfl (congrArg some hq)) rfl
  cases hq:gw (OF (Om (ns.getD 6 0) (.ofNat 7)) (.ofNat 8)) (.ofNat 7) with
  |false=>exact⟨_,.inl rfl,aw (ht _ hq) rfl⟩
  |true=>
   have htk:=vg (a := .str [100,105,99,116]) (b := .str [102,105,108,116,101,114]) (c := .str raw) (l := .str bZ[i]::(A.map cat).map D.str) (by simp;exact bg ‹_›)
   have hsub : ∀j,k=j->(Ex.bin .Sub (.int 3 0) (.bin .Mod (.bin .FloorDiv (.var 3 0) (.int 56 0) 0) (.int 2 0) 0) 0).ev (calls TT FF (n+2)) .free (TG jt) (lH ns raw P (ns.getD 6 0) bZ[i] A (aZ raw bZ[i] A)) [] = .ok (.d (.int (OO 3-OO j))) (lH ns raw P (ns.getD 6 0) bZ[i] A (aZ raw bZ[i] A)) []:=by
    intro j hj;refine aC rfl (aC (aC rfl rfl rfl) rfl (z := .int (.ofNat j)) ?_) rfl
    show some (D.int (OF (Om (ns.getD 6 0) (.ofNat 56)) (.ofNat 2)))=_
    rw[hk,hj]
   match k,hk2,hsub with
   |0,_,hsub=>exact⟨_,.inr (.inl rfl),aV (ht _ hq) (af (aW (ρ1:=lH ns raw P (ns.getD 6 0) bZ[i] A (aZ raw bZ[i] A)) (Γ1:=[]) (v := .d (au [[100,105,99,116],[102,105,108,116,101,114],raw])) (pV rfl (hsub 0 rfl) htk.1)) rfl)⟩
   |1,_,hsub=>exact⟨_,.inr (.inr rfl),aV (ht _ hq) (af (aW (ρ1:=lH ns raw P (ns.getD 6 0) bZ[i] A (aZ raw bZ[i] A)) (Γ1:=[]) (v := .d (au [[100,105,99,116],[102,105,108,116,101,114]])) (pV rfl (hsub 1 rfl) htk.2)) rfl)⟩
   |_+2,h,_=>exact vK h
 obtain⟨ws,hws,hcut⟩:=hcut;refine⟨bZ[i],PB hl,A,⟨hA1,hA2⟩,ws,ns.getD 6 0,hws,fun r hr => ?_⟩
 refine af (s:=eU.ak 0) (ss:=eU.from 1) (ρ1:=[some (.d (.lst (ns.map .int))),some (.d (.str raw)),some (.d P),some (.d (.int (ns.getD 6 0))),none,none,none,none,none,none]) (Γ1:=[]) (aW (ρ1:=[some (.d (.lst (ns.map .int))),some (.d (.str raw)),some (.d P),none,none,none,none,none,none,none]) (az (vs:=[.d (.lst (ns.map .int)),.d (.int (.ofNat 6)),.d (.int 0)]) (ad:=702) rfl rfl rfl (aN rfl (h41 6 0)) rfl)) ?_
 refine af (s:=eU.ak 1) (ss:=eU.from 2) (ρ1:=[some (.d (.lst (ns.map .int))),some (.d (.str raw)),some (.d P),some (.d (.int (ns.getD 6 0))),some (.d (.str bZ[i])),none,none,none,none,none]) (Γ1:=[]) (aW (ρ1:=[some (.d (.lst (ns.map .int))),some (.d (.str raw)),some (.d P),some (.d (.int (ns.getD 6 0))),none,none,none,none,none,none]) (aM (u := .d (au bZ)) (v := .d (.int (.ofNat i))) rfl (aC rfl rfl (by show some (D.int (OF (ns.getD 6 0) (.ofNat 7)))=_;rw[hi])) (bB (by rw[Oc,N8 hl];rfl) (by decide)))) ?_
 refine af (s:=eU.ak 2) (ss:=eU.from 3) (ρ1:=[some (.d (.lst (ns.map .int))),some (.d (.str raw)),some (.d P),some (.d (.int (ns.getD 6 0))),some (.d (.str bZ[i])),some (.d (.lst (A.map au))),none,none,none,none]) (Γ1:=[]) (aW (ρ1:=[some (.d (.lst (ns.map .int))),some (.d (.str raw)),some (.d P),some (.d (.int (ns.getD 6 0))),some (.d (.str bZ[i])),none,none,none,none,none]) (az (ad:=835) rfl (aj (az (ad:=702) rfl rfl rfl (aN rfl (h41 7 _)) rfl) rfl) rfl (aN rfl h62) rfl)) ?_
 refine af (s:=eU.ak 3) (ss:=eU.from 4) (ρ1:=lH ns raw P (ns.getD 6 0) bZ[i] A (aZ raw bZ[i] A)) (Γ1:=[]) (aW (ρ1:=[some (.d (.lst (ns.map .int))),some (.d (.str raw)),some (.d P),some (.d (.int (ns.getD 6 0))),some (.d (.str bZ[i])),some (.d (.lst (A.map au))),none,none,none,none]) (v := .d (au (aZ raw bZ[i] A))) (aC (y := .lst ((A.map cat).map .str)) (x:=au [[100,105,99,116],[102,105,108,116,101,114],raw,bZ[i]]) rfl (fJ (v := .d (.lst (A.map au))) (vs:=A.map fun ps=>V.d (au ps)) rfl ?_ (aO (by simp;exact bg ‹_›)) ?_) ?_)) ?_
 ·exact gy
 ·rw[Pc]
  refine comp_map (I:=fun ρ => ∃a,ρ=[a]) A _ ?_ ⟨_,rfl⟩
  rintro ps hps _ ⟨a,rfl⟩;have:=hlen ps hps;refine⟨[some (.d (au ps))],hW (ρ1:=[some (.d (au ps))]) (Γ1:=[]) rfl rfl ?_,_,rfl⟩
  refine(zS (xs:=ps) rfl (by rw[join_nil];show(cat ps).length+0<=1000;exact bg ‹_›)).trans ?_
  rw[join_nil];rfl
 ·show cond (ay _) _ _=_
  rw[aO (by simp;exact ba hA2)];rfl
 ·exact af (s:=eU.ak 4) (ss:=je) hcut hr
noncomputable abbrev rP(a:Option V)(raw:Tx)(P:D)(c6:Int)(kw:Tx)(A:Option V)(ws:List Tx):aq:=[a,some (.d (.str raw)),some (.d P),some (.d (.int c6)),some (.d (.str kw)),A,some (.d (au ws)),none,none,none]
theorem MS(n:Nat)(a A:Option V)(raw:Tx)(P:D)(c6:Int):(bZ.map fun kw=>RG.val ((je.ex (TG jt) (calls TT FF (n+12)) .free (rP a raw P c6 kw A [[100,105,99,116],[102,105,108,116,101,114],raw]) []).out))=bZ.map fun _=>some (.d (.bool true)):=by kernel_rfl
theorem Kr(n:Nat)(a A:Option V)(raw:Tx)(P:D)(c6:Int):(bZ.map fun kw=>RG.val ((je.ex (TG jt) (calls TT FF (n+12)) .free (rP a raw P c6 kw A [[100,105,99,116],[102,105,108,116,101,114]]) []).out))=bZ.map fun _=>some (.d (.bool true)):=by kernel_rfl
noncomputable def jv:List Tx:=[[],[107,101,121,115],[119]]
noncomputable abbrev nS(n:Nat)(a A:Option V)(raw:Tx)(P:D)(c6:Int)(kw:Tx)(ps:List Tx):Option V:=RG.val ((je.ex (TG jt) (calls TT FF (n+12)) .free (rP a raw P c6 kw A ([100,105,99,116]::[102,105,108,116,101,114]::raw::kw::ps)) []).out)
theorem HY(n:Nat)(a A:Option V)(raw:Tx)(P:D)(c6:Int):(jv.map fun kw=>nS n a A raw P c6 kw [])=jv.map fun _=>some (.d (.bool true)):=by kernel_rfl
theorem HT(n:Nat)(a A:Option V)(raw:Tx)(P:D)(c6:Int)(x:Tx):(jv.map fun kw=>nS n a A raw P c6 kw [x])=jv.map fun _=>some (.d (.bool true)):=by kernel_rfl
theorem HI(n:Nat)(a A:Option V)(raw:Tx)(P:D)(c6:Int)(x y:Tx):(jv.map fun kw=>nS n a A raw P c6 kw [x,y])=jv.map fun _=>some (.d (.bool true)):=by kernel_rfl
theorem Ip(n:Nat)(a A:Option V)(raw:Tx)(P:D)(c6:Int)(x y z:Tx):(jv.map fun kw=>nS n a A raw P c6 kw [x,y,z])=jv.map fun _=>some (.d (.bool true)):=by kernel_rfl
noncomputable def iC:List (Tx×D):=[(pR,vP),(pB,vb)]
noncomputable def pI:List Tx:=kinds.map (·.1)
noncomputable def vD(n:Nat)(a A:Option V)(c6:Int)(ps:List Tx):List (List (Option V)):=pI.map fun kw=>iC.map fun q=>nS n a A q.1 q.2 c6 kw ps
theorem Hk(n:Nat)(a A:Option V)(c6:Int):vD n a A c6 []=pI.map fun _=>iC.map fun _=>some (.d (.bool true)):=by kernel_rfl
theorem GX(n:Nat)(a A:Option V)(c6:Int)(x:Tx):vD n a A c6 [x]=pI.map fun _=>iC.map fun _=>some (.d (.bool true)):=by kernel_rfl
theorem HH(n:Nat)(a A:Option V)(c6:Int)(x y:Tx):vD n a A c6 [x,y]=pI.map fun _=>iC.map fun _=>some (.d (.bool true)):=by kernel_rfl
theorem Ia(n:Nat)(a A:Option V)(c6:Int)(x y z:Tx):vD n a A c6 [x,y,z]=pI.map fun _=>iC.map fun _=>some (.d (.bool true)):=by kernel_rfl
end Mine.Pl
namespace Mine
noncomputable def St.we:St->av
 | .ifs _ _ b _=>b
 | .gQ _ _ _ h _ _=>h
 | .iJ _ f _=>f
 |_ => .nil
end Mine
namespace Mine.Pl
noncomputable def mK(b:Bool):Int:=cond b 1 0
noncomputable abbrev ke(a:Option V)(raw:Tx)(P:D)(c6:Int)(kw:Tx)(A:List (List Tx))(ws:List Tx)(b:Bool)(due:Option V):aq:=[a,some (.d (.str raw)),some (.d P),some (.d (.int c6)),some (.d (.str kw)),some (.d (.lst (A.map au))),some (.d (au ws)),some (.d (.int (mK b))),due,none]
theorem Ij{q:Tx×Bool}(hq:q∈kinds)(O:aL)(a:Option V)(raw:Tx)(P:D)(c6:Int)(A:List (List Tx))(ws:List Tx):(eU.ak 5).ex (TG jt) O .free (rP a raw P c6 q.1 (some (.d (.lst (A.map au)))) ws) [] = .ok .next (ke a raw P c6 q.1 A ws q.2 none) []:=by
 simp only[kinds,N7,Ou,or_false] at hq;rcases hq with rfl | rfl | rfl | rfl<;>rfl
theorem F2{q:Tx×Bool}(hq:q∈kinds)(O:aL)(a:Option V)(raw:Tx)(P:D)(c6:Int)(A:List (List Tx))(ws:List Tx):((((eU.ak 6).we.ak 0).wt).ev O .free (TG jt) (ke a raw P c6 q.1 A ws q.2 none) []) = .ok false (ke a raw P c6 q.1 A ws q.2 none) []:=by
 simp only[kinds,N7,Ou,or_false] at hq;rcases hq with rfl | rfl | rfl | rfl<;>rfl
theorem Fd(O:aL)(a:Option V)(raw:Tx)(l:List D)(c6:Int)(kw:Tx)(A:List (List Tx))(ws:List Tx)(b:Bool):(((((eU.ak 6).we.ak 0).we.ak 0).wt).ev O .free (TG jt) (ke a raw (.lst l) c6 kw A ws b none) []) = .ok false (ke a raw (.lst l) c6 kw A ws b none) []:=by kernel_rfl
theorem ur(Γ:ag)(p:Tx×Tx): ∀b,cF Γ (.d (bx p)) (.d (.int (mK b)))=some (.d (.str (g8 b p))):=by
 intro b;cases b<;>rfl
theorem ta{l:List (Tx×Tx)}{f:Tx×Tx->Bool}:(l.filterMap fun p=>cond (f p) (some (bx p)) none)=(l.filter f).map bx:=by
 induction l with
 |nil=>rfl
 |cons a l ih=>
  cases q:f a with
  |true=>rw[R1,Rv q];simp only[q,cond_true,ih,Oa]
  |false=>rw[R1,Rw (by simp[q])];simp only[q,cond_false,ih]
theorem eH{f:D->D->Option Bool}{a b:D}{x y:List D}(h1:f a b=some true)(h2:eg f x y=some true):eg f (a::x) (b::y)=some true:=by
 show(f a b).bind _=_
 rw[h1];show(eg f x y).map _=_
 rw[h2];rfl
theorem pL{n:Nat}{l:List D}(h:eg (cg n) l l=some true):cg (n+1) (.tup l) (.tup l)=some true:=by
 show cond (I' l.length l.length) _ none=_
 rw[OZ];exact h
theorem uE{n:Nat}{l:List D}(h:eg (cg n) l l=some true):cg (n+1) (.lst l) (.lst l)=some true:=by
 show cond (I' l.length l.length) _ _=_
 rw[OZ];exact h
theorem jD(n:Nat)(x:Tx):cg n (.str x) (.str x)=some true:=by cases n<;>exact congrArg some (dz x)
theorem uj(x:Tx):cg 9 (.tup [.int 0,.str x]) (.tup [.int 0,.str x])=some true:=pL (eH rfl (eH (jD _ _) rfl))
section good
variable{r:List Ch}{ds:List (Tx×Tx)}{A:List (List Tx)}
theorem Li(n:Nat)(g:GoodR r ds)(hA:kb A){q:Tx×Bool}(hq:q∈kinds)(a:Option V)(c6:Int): ∃Γ,(je.ex (TG jt) (calls TT FF (n+9)) .free (rP a (ax r) (.lst ((bJ ds).map bx)) c6 q.1 (some (.d (.lst (A.map au)))) (aZ (ax r) q.1 A)) []).out = .ok (.d (.bool true)) Γ:=by
 have hpl:=hA.2;have hps:=g.pl;obtain⟨YC,h43⟩:=II (n+7) (ps:=(bJ ds).filter (cS q.2 A)) (fun p hp=>g.dR p (VD.mp hp).1) (by have:=Ub (cS q.2 A) (bJ ds);exact bg (N0 ‹_› ‹_›))
 have h51:=LP n g hA hq (.loc 0) qX;refine⟨qX++[none],aR (ρ:=ke a (ax r) (.lst ((bJ ds).map bx)) c6 q.1 A (aZ (ax r) q.1 A) q.2 (some (.d (.tup [.int 0,.str (gg ((bJ ds).filter (cS q.2 A)))])))) ?_⟩
 refine af (s:=eU.ak 5) (ss:=eU.from 6) (Ij hq _ _ _ _ _ _ _) ?_
 refine af (s:=eU.ak 6) (ss:=eU.from 7) (ρ1:=ke a (ax r) (.lst ((bJ ds).map bx)) c6 q.1 A (aZ (ax r) q.1 A) q.2 (some (.d (.tup [.int 0,.str (gg ((bJ ds).filter (cS q.2 A)))])))) (Γ1:=[]) ?_ ?_
 ·refine aw (aY (bc (r:=false) (cv rfl (gY (by simp;exact bg ‹_›)) rfl) rfl (by show some (!mV _ _)=some false;exact congrArg (fun b=>some (!b)) (Gw (ax r) q.1 A))) rfl) ?_
  refine af (s:=(eU.ak 6).we.ak 0) (ss := .nil) (aw (F2 hq _ _ _ _ _ _ _) (af (s:=((eU.ak 6).we.ak 0).we.ak 0) (ss := .nil) (aw (Fd _ _ _ _ _ _ _ _ _) ?_) rfl)) rfl
  refine af (aW (ρ1:=ke a (ax r) (.lst ((bJ ds).map bx)) c6 q.1 A (aZ (ax r) q.1 A) q.2 none) (Γ1:=[]) (v := .d (.tup [.int 0,.str (gg ((bJ ds).filter (cS q.2 A)))])) (d5 (vs:=[.d (.int 0),.d (.str (gg ((bJ ds).filter (cS q.2 A))))]) (aj rfl (aj (az (vs:=[.d (.lst (((bJ ds).filter (cS q.2 A)).map bx))]) (ad:=712) rfl (aj (fJ (v := .d (.lst ((bJ ds).map bx))) (vs:=(bJ ds).map fun p=>V.d (bx p)) rfl ?_ (aO (by simp;exact bg ‹_›)) ?_) rfl) rfl (aN rfl h43) rfl) rfl)) rfl rfl)) rfl
  ·exact gy
  ·have key := @pg (Tx×Tx)
   rw[<-ta];refine pg (f:=fun p=>cond (cS q.2 A p) (some (bx p)) none) (I:=fun ρ => ∃x,ρ=[x,some (.d (.lst (A.map au))),some (.d (.int (mK q.2)))]) (bJ ds) _ [] ?_ ⟨_,rfl⟩
   rintro p hp _ ⟨x,rfl⟩;have hsel:g8 q.2 p∈atT:=by
    have:=g.dR p hp;cases q.2 with
    |false=>exact this.1
    |true=>exact this.2
   have hb:builtin .any [] [.d (.lst ((A.map fun ps=>ma ps (g8 q.2 p)).map .bool))]=some (.bool (cS q.2 A p)):=by
    show(boolsOf (_)).map _=_
    simp only[mM,OD,gO,WQ];rfl
   have hit:dm (.d (.lst (A.map au)))=some (A.map fun ps=>V.d (au ps)):=gy
   refine⟨[some (.d (bx p)),some (.d (.lst (A.map au))),some (.d (.int (mK q.2)))],?_,_,rfl⟩
   cases hg:cS q.2 A p with
   |true=>
    rw[hg] at hb;refine hW (ρ1:=[some (.d (bx p)),some (.d (.lst (A.map au))),some (.d (.int (mK q.2)))]) (Γ1:=[]) rfl (nH (aY (lu (aj (fJ (v := .d (.lst (A.map au))) rfl hit (aO (by simp;exact bg ‹_›)) ?_) rfl) hb) rfl) rfl) rfl
    rw[Pc];refine comp_map (I:=fun ρ => ∃y,ρ=[y,some (.d (bx p)),some (.d (.int (mK q.2)))]) A _ ?_ ⟨_,rfl⟩
    rintro ps hps2 _ ⟨y,rfl⟩;obtain⟨YZ,h61⟩:=E5 (n+4) (hA.1 ps hps2) (jA _ hsel).1 (by have:=(jA _ hsel).2;exact bg ‹_›)
    exact⟨_,hW (ρ1:=[some (.d (au ps)),some (.d (bx p)),some (.d (.int (mK q.2)))]) (Γ1:=[]) rfl rfl (az (ad:=828) rfl (aj rfl (aj (aM rfl rfl (ur _ p q.2)) rfl)) rfl (aN rfl h61) rfl),_,rfl⟩
   |false=>
    rw[hg] at hb;refine HU (ρ1:=[some (.d (bx p)),some (.d (.lst (A.map au))),some (.d (.int (mK q.2)))]) (Γ1:=[]) rfl (sV (aY (lu (aj (fJ (v := .d (.lst (A.map au))) rfl hit (aO (by simp;exact bg ‹_›)) ?_) rfl) hb) rfl))
    rw[Pc];refine comp_map (I:=fun ρ => ∃y,ρ=[y,some (.d (bx p)),some (.d (.int (mK q.2)))]) A _ ?_ ⟨_,rfl⟩
    rintro ps hps2 _ ⟨y,rfl⟩;obtain⟨YZ,h61⟩:=E5 (n+4) (hA.1 ps hps2) (jA _ hsel).1 (by have:=(jA _ hsel).2;exact bg ‹_›)
    exact⟨_,hW (ρ1:=[some (.d (au ps)),some (.d (bx p)),some (.d (.int (mK q.2)))]) (Γ1:=[]) rfl rfl (az (ad:=828) rfl (aj rfl (aj (aM rfl rfl (ur _ p q.2)) rfl)) rfl (aN rfl h61) rfl),_,rfl⟩
 ·refine aG (bP (bc (u := .d (.tup [.int 0,.str (gg ((bJ ds).filter (cS q.2 A)))])) (fe (ad:=766) (vs:=[.loc 0,.d (au (aZ (ax r) q.1 A))]) (ρ1:=ke a (ax r) (.lst ((bJ ds).map bx)) c6 q.1 A (aZ (ax r) q.1 A) q.2 (some (.d (.tup [.int 0,.str (gg ((bJ ds).filter (cS q.2 A)))])))) (Γ1:=qX) rfl (aj (v := .loc 0) (Γ1:=qX) rfl rfl) rfl (dj h51) rfl) rfl ?_))
  exact uj _
end good
theorem aS{α β:Type}{f g:α->β}{l:List α}(h:l.map f=l.map g): ∀a∈l,f a=g a:=Sl.mp h
theorem Ce : ∀kw∈bZ,kw∈jv\/∃q∈kinds,q.1=kw:=by decide
theorem uB{α:Type}{l:List α}(h:l.length<=3):l=[]\/(∃x,l=[x])\/(∃x y,l=[x,y])\/∃x y z,l=[x,y,z]:=by
 match l,h with
 | [],_=>exact .inl rfl
 | [x],_=>exact .inr (.inl ⟨x,rfl⟩)
 | [x,y],_=>exact .inr (.inr (.inl ⟨x,y,rfl⟩))
 | [x,y,z],_=>exact .inr (.inr (.inr ⟨x,y,z,rfl⟩))
 |_::_::_::_::_,h=>simp at h
theorem Eh(n:Nat)(a A:Option V)(raw:Tx)(P:D)(c6:Int){kw:Tx}(hk:kw∈jv){ps:List Tx}(hp:ps.length<=3):nS n a A raw P c6 kw ps=some (.d (.bool true)):=by
 rcases uB hp with rfl | ⟨x,rfl⟩ | ⟨x,y,rfl⟩ | ⟨x,y,z,rfl⟩
 ·exact aS (HY n a A raw P c6) kw hk
 ·exact aS (HT n a A raw P c6 x) kw hk
 ·exact aS (HI n a A raw P c6 x y) kw hk
 ·exact aS (Ip n a A raw P c6 x y z) kw hk
theorem Gs(n:Nat)(a A:Option V)(c6:Int){q:Tx×D}(hq:q∈iC){k:Tx×Bool}(hk:k∈kinds){ps:List Tx}(hp:ps.length<=3):nS n a A q.1 q.2 c6 k.1 ps=some (.d (.bool true)):=by
 have hk4:k.1∈pI:=Ph hk;rcases uB hp with rfl | ⟨x,rfl⟩ | ⟨x,y,rfl⟩ | ⟨x,y,z,rfl⟩
 ·exact aS (aS (Hk n a A c6) _ hk4) q hq
 ·exact aS (aS (GX n a A c6 x) _ hk4) q hq
 ·exact aS (aS (HH n a A c6 x y) _ hk4) q hq
 ·exact aS (aS (Ia n a A c6 x y z) _ hk4) q hq
theorem Drawn.cases{raw:Tx}{P:D}(h:Drawn raw P):(raw,P)∈iC\/∃r ds,GoodR r ds/\raw=ax r/\P = .lst ((bJ ds).map bx):=by
 cases h with
 |pR=>exact .inl (by simp[iC])
 |pB=>exact .inl (by simp[iC])
 |good r ds h1 h2 h3 h4 h5=>exact .inr ⟨r,ds,⟨h1,h2,h3,h4,h5⟩,rfl,rfl⟩
theorem Nj(n:Nat){ns:List Int}(hns:ns.length<=63){raw:Tx}{P:D}(hD:Drawn raw P): ∃Γ,calls TT FF (n+13) true 63 [.d (.lst (ns.map .int)),.d (.str raw),.d P] [] = .ok (.d (.bool true)) Γ:=by
 obtain⟨kw,hkw,A,hA,ws,c6,hws,hs⟩:=K8 (n+10) hns raw P;have hgo : ∃Γ,(je.ex (TG jt) (calls TT FF (n+12)) .free (lH ns raw P c6 kw A ws) []).out = .ok (.d (.bool true)) Γ:=by
  rcases hws with rfl | rfl | rfl
  ·have hlen:(A.map cat).length<=3:=by rw[Oe];exact hA.2
   rcases Ce kw hkw with ho | ⟨q,hq,rfl⟩
   ·exact RG.val_eq (Eh n _ _ raw P c6 ho hlen)
   ·rcases hD.cases with hb | ⟨r,ds,g,rfl,rfl⟩
    ·exact RG.val_eq (Gs n _ _ c6 hb hq hlen)
    ·exact Li (n+3) g hA hq _ c6
  ·exact RG.val_eq (aS (MS n _ _ raw P c6) kw hkw)
  ·exact RG.val_eq (aS (Kr n _ _ raw P c6) kw hkw)
 obtain⟨Γ,hgo⟩:=hgo;exact⟨Γ,aH (f:=Er) rfl rfl (by rw[show Er.body=eU from rfl];exact(congrArg Res.out (hs _ rfl)).trans hgo)⟩
noncomputable def tZ:Tx:=[122]
noncomputable def tK:Tx:=[107]
noncomputable def tV:Tx:=[118]
noncomputable def FR:Tx:=[97,32,98]
noncomputable def gC:Tx:=[110,101,119]
noncomputable def d7:Tx:=[111,108,100]
noncomputable def cG:Tx:=[103,111,32,111,110]
noncomputable abbrev Plan:=Nat×Tx×Tx×Nat×Tx
noncomputable def codes:List Nat:=[0,4,1,3,2,9]
noncomputable def dI:List Tx:=[[],[107,101,121],[118,97,108,117,101],[110,111,32,107,101,121],[110,111,32,118,97,108,117,101],[111,116,104,101,114]]
noncomputable def cj:List (Tx×Option Bool):=[([49],some true),([48],some false),([121,101,115],some true),([110],some false),([],none),([116,82,117],some true),([111],none),([32,48,120,49,48,32],some true),([111,70,102],some false),([45,48],some false),([97],none)]
noncomputable def NM:List (Tx×Tx):=[([107],[118]),([97,32,98],[118]),([107],[107]),([118],[107])]
structure bV(p:Plan):Prop where
 c:p.1∈codes
 t:p.2.1∈cj.map (·.1)
 d:p.2.2.1∈dI
 l:p.2.2.2.1∈[0,1,2]
 i:p.2.2.2.2∈[[],d7]
noncomputable abbrev cL(p:Plan):D := .tup [.int (.ofNat p.1),.str p.2.1,.str p.2.2.1,.int (.ofNat p.2.2.2.1),.str p.2.2.2.2]
noncomputable def so(x:Tx):Option Bool:=match cj.find? (fun q=>ao q.1 x) with
 |some q=>q.2
 |none=>none
noncomputable abbrev cH:=Tx->Option Tx
noncomputable def upd(F:cH)(k:Tx)(v:Option Tx):cH:=fun w=>cond (ao w k) v (F w)
noncomputable def oD:Option Tx->D
 |some x => .str x
 |none => .none
noncomputable abbrev fZ(F:cH):D := .lst [oD (F tK),oD (F tV),oD (F FR),oD (F tZ)]
noncomputable abbrev entry(F:cH):D := .tup [.str cG,.int 1,fZ F]
noncomputable def cW(nm:Tx×Tx)(gT:Tx)(F:cH):cH:=cond (ao gT [107,101,121]) (upd F nm.1 (some gC)) (cond (ao gT [118,97,108,117,101]) (upd F nm.2 (some gC)) (cond (ao gT [110,111,32,107,101,121]) (upd F nm.1 none) (cond (ao gT [110,111,32,118,97,108,117,101]) (upd F nm.2 none) (cond (ao gT [111,116,104,101,114]) (upd F tZ (some gC)) F))))
noncomputable def bK(nm:Tx×Tx)(q:Tx×Tx)(F:cH):cH:=upd (upd F nm.1 (some q.1)) nm.2 (some q.2)
noncomputable def hV(nm:Tx×Tx)(gT:Tx)(B:List (Tx×Tx)):List (Tx×Tx):=cond (ao gT [107,101,121]) (aQ nm.1 gC B) (cond (ao gT [118,97,108,117,101]) (aQ nm.2 gC B) (cond (ao gT [110,111,32,107,101,121]) (dh nm.1 B) (cond (ao gT [110,111,32,118,97,108,117,101]) (dh nm.2 B) (cond (ao gT [111,116,104,101,114]) (aQ tZ gC B) B))))
noncomputable def iO(p:Plan):Tx:=cond (I' p.1 1) ((cond (ao p.2.2.2.2 []) p.2.1 p.2.2.2.2)++([10,32,32,32,32,40,34,100,105,99,116,32,102,105,108,116,101,114,34,32,115,99,114,105,112,116,32,108,105,110,101,32]++(m7 p.2.2.2.1++[41]))) p.2.2.2.2
noncomputable def jS(c:Nat):Int:=cond (I' c 2) 1 0
noncomputable def gL(p:Plan):D := .tup [.int (.ofNat p.1),.str p.2.1,.tup [.str [69],.str p.2.1],.int (jS p.1),.int 0,.str (iO p),.int 0]
noncomputable def jJ(x:Tx):D := .tup [.int 1,.str ([101,120,112,101,99,116,101,100,32,98,111,111,108,101,97,110,32,118,97,108,117,101,32,98,117,116,32,103,111,116,32,34]++(x++[34])),.tup [.str [84,67,76],.str [86,65,76,85,69],.str [66,79,79,76,69,65,78]],.int 0,.int 0,.str [],.int 0]
noncomputable abbrev kS(K:List (Tx×Tx)):D := .tup [.int 0,.str (gg K)]
noncomputable def dY(nm q:Tx×Tx)(p:Plan)(F:cH)(L:List D)(K:List (Tx×Tx))(k:List (Tx×Tx)->D×cH×List D):D×cH×List D:=
 cond (I' p.1 3) (kS K,cW nm p.2.2.1 (bK nm q F),L++[entry (bK nm q F)]) (cond (I' p.1 4) (k K) (cond (I' p.1 0) ((so p.2.1).elim (jJ p.2.1,cW nm p.2.2.1 (bK nm q F),L++[entry (bK nm q F)]) fun b=>k (cond b (K++[q]) K)) (gL p,cW nm p.2.2.1 (bK nm q F),L++[entry (bK nm q F)])))
noncomputable def spec(nm:Tx×Tx):List (Tx×Tx)->List Plan->cH->List D->List (Tx×Tx)->D×cH×List D
 | [],_,F,L,K=>(kS K,F,L)
 |q::qs,ps,F,L,K=>ps.head?.elim (kS K,F,L) fun p=>dY nm q p F L K (spec nm qs ps.tail (cW nm p.2.2.1 (bK nm q F)) (L++[entry (bK nm q F)]))
theorem j4{nm q:Tx×Tx}{t d i:Tx}{l:Nat}{o:Option Bool}{F:cH}{L:List D}{K:List (Tx×Tx)}{k:List (Tx×Tx)->D×cH×List D}(h:so t=o):dY nm q (0,t,d,l,i) F L K k=o.elim (jJ t,cW nm d (bK nm q F),L++[entry (bK nm q F)]) fun b=>k (cond b (K++[q]) K):=by rw[<-h];rfl
theorem sa{α:Type}{k w:Tx}{v:α}: ∀{l:List (Tx×α)},bw w (aQ k v l)=cond (ao w k) (some v) (bw w l)
 | []=>rfl
 |x::r=>by
  simp only[fL,fN];cases q:ao k x.1 with
  |true=>
   have e:=bG q;subst e;simp only[cond_true,eJ,eK];cases ao w x.1<;>rfl
  |false=>
   simp only[cond_false,eJ,eK,sa (l:=r)];cases q2:ao w x.1 with
   |false=>rfl
   |true=>
    have e:=bG q2;subst e;rw[iu,q];rfl
theorem p7{α:Type}{w:Tx}: ∀{l:List (Tx×α)},w∉l.map Oq->bw w l=none
 | [],_=>rfl
 |x::r,h=>by
  simp only[Oa,N7,not_or] at h;have:ao w x.1=false:=by cases q:ao w x.1 with | false=>rfl | true=>exact absurd (bG q) h.1
  simp only[eJ,eK,this,cond_false,p7 h.2]
theorem ji{α:Type}{k w:Tx}: ∀{l:List (Tx×α)},(l.map Oq).Nodup->bw w (dh k l)=cond (ao w k) none (bw w l)
 | [],_=>by simp only[jc,gW,eJ,eK];cases ao w k<;>rfl
 |x::r,h=>by
  simp only[Oa,Py] at h;simp only[jc,gW];cases q:ao k x.1 with
  |true=>
   have e:=bG q;subst e;simp only[cond_true,eJ,eK];cases q2:ao w x.1 with
   |false=>rfl
   |true=>have e:=bG q2;subst e;exact p7 h.1
  |false=>
   simp only[cond_false,eJ,eK,ji h.2];cases q2:ao w x.1 with
   |false=>rfl
   |true=>
    have e:=bG q2;subst e;rw[iu,q];rfl
theorem nr{α:Type}{k:Tx}: ∀{l:List (Tx×α)},(dh k l).Sublist l
 | [] => .slnil
 |x::r=>by
  simp only[jc,gW];cases ao k x.1 with
  |true=>exact List.sublist_cons_self _ _
  |false=>exact nr.cons_cons _
theorem vI{α:Type}{k:Tx}{l:List (Tx×α)}(h:(l.map Oq).Nodup):((dh k l).map Oq).Nodup:=h.sublist (nr.map _)
theorem rH{k:Tx}: ∀{l:List (Tx×Tx)},dh k (aD l)=aD (dh k l)
 | []=>rfl
 |x::r=>by
  have ih:=rH (k:=k) (l:=r);simp only[aD,Oa,jc,gW] at ih ⊢;cases ao k x.1 with
  |true=>rfl
  |false=>simp only[cond_false,Oa,ih]
theorem Ku{k v:Tx}{l:List (Tx×Tx)}:aQ k (.str v) (aD l)=aD (aQ k v l):=by
 rw[aD,kU D.str];rfl
theorem lp{w:Tx}: ∀{l:List (Tx×Tx)},(bw w (aD l)).getD .none=oD (bw w l)
 | []=>rfl
 |x::r=>by
  have ih:=lp (w:=w) (l:=r);simp only[aD,Oa,eJ,eK] at ih ⊢;cases ao w x.1 with
  |true=>rfl
  |false=>exact ih
structure fw(B:List (Tx×Tx))(F:cH):Prop where
 nd:(B.map Oq).Nodup
 lk : ∀w,bw w B=F w
theorem fw.put{B:List (Tx×Tx)}{F:cH}(h:fw B F)(k v:Tx):fw (aQ k v B) (upd F k (some v)):=
 ⟨mP h.nd,fun w=>by rw[sa,h.lk];rfl⟩
theorem fw.drop{B:List (Tx×Tx)}{F:cH}(h:fw B F)(k:Tx):fw (dh k B) (upd F k none):=
 ⟨vI h.nd,fun w=>by rw[ji h.nd,h.lk];rfl⟩
theorem fw.gT{B:List (Tx×Tx)}{F:cH}(h:fw B F)(nm:Tx×Tx)(d:Tx):fw (hV nm d B) (cW nm d F):=by
 unfold hV cW;cases ao d [107,101,121] with
 |true=>exact h.put _ _
 |false=>cases ao d [118,97,108,117,101] with
  |true=>exact h.put _ _
  |false=>cases ao d [110,111,32,107,101,121] with
   |true=>exact h.drop _
   |false=>cases ao d [110,111,32,118,97,108,117,101] with
    |true=>exact h.drop _
    |false=>cases ao d [111,116,104,101,114] with
     |true=>exact h.put _ _
     |false=>exact h
theorem xo(nm:Tx×Tx)(d:Tx)(B:List (Tx×Tx)):(hV nm d B).length<=B.length+1:=by
 unfold hV;have h1:=fun k=>ej (k:=k) (v:=gC) (l:=B)
 have h2:=fun k=>(nr (k:=k) (l:=B)).length_le
 cases ao d [107,101,121] with
 |true=>exact h1 _
 |false=>cases ao d [118,97,108,117,101] with
  |true=>exact h1 _
  |false=>cases ao d [110,111,32,107,101,121] with
   |true=>exact N0 (h2 _) (OH _ _)
   |false=>cases ao d [110,111,32,118,97,108,117,101] with
    |true=>exact N0 (h2 _) (OH _ _)
    |false=>cases ao d [111,116,104,101,114] with
     |true=>exact h1 _
     |false=>exact Rj _
theorem fw.look{B:List (Tx×Tx)}{F:cH}(h:fw B F)(w:Tx):(bw w (aD B)).getD .none=oD (F w):=by rw[lp,h.lk]
theorem L8(n:Nat):calls TT FF (n+1) true 40 [] [] = .ok (.d (.lst (cj.map fun q => .tup [.str q.1,match q.2 with | some b => .bool b | none => .none]))) []:=by kernel_rfl
theorem Ay(n:Nat)(z:Int): ∃p,bV p/\calls TT FF (n+2) true 46 [.d (.int z)] [] = .ok (.d (cL p)) []:=by
 obtain⟨i1,h1,l1⟩:=cx z 7;obtain⟨i2,h2,l2⟩:=cx (Om z (.ofNat 8)) 5;obtain⟨i3,h3,l3⟩:=cx (Om (Om z (.ofNat 8)) (.ofNat 6)) 10;obtain⟨i4,h4,l4⟩:=cx (Om (Om (Om z (.ofNat 8)) (.ofNat 6)) (.ofNat 11)) 2;obtain⟨i5,h5,l5⟩:=cx (Om (Om (Om (Om z (.ofNat 8)) (.ofNat 6)) (.ofNat 11)) (.ofNat 3)) 1;have e1:i1<[0,4,0,1,3,0,2,9].length:=l1;have e2:i2<dI.length:=l2;have e3:i3<cj.length:=l3;have e5:i5<[[],d7].length:=l5;refine⟨([0,4,0,1,3,0,2,9][i1],cj[i3].1,dI[i2],i4,[[],d7][i5]),⟨?_,Ph (PB e3),PB e2,?_,PB e5⟩,?_⟩
 ·have : ∀c∈[0,4,0,1,3,0,2,9],c∈codes:=by decide
  exact this _ (PB e1)
 ·exact KO (P:=fun i=>i∈[0,1,2]) (by decide) (by decide) (by decide) i4 l4
 ·have hb : ∀(z:Int) (k i:Nat),OF z (.ofNat (k+1)) = .ofNat i->OI k 1073741823=true->gZ .Mod (.int z) (.int (.ofNat (k+1)))=some (.int (.ofNat i)):=fun z k i h hk=>by
   show cond (OI k 1073741823) _ _=_
   rw[hk,<-h];rfl
  have l1':([0,4,0,1,3,0,2,9]:List Nat).map (fun(c:Nat)=>D.int (.ofNat c))=[.int 0,.int 4,.int 0,.int 1,.int 3,.int 0,.int 2,.int 9]:=rfl
  refine aH (f:=JD) rfl rfl (aR (ρ:=[some (.d (.int z)),some (.d (.int (.ofNat [0,4,0,1,3,0,2,9][i1]))),some (.d (.int (Om (Om (Om z (.ofNat 8)) (.ofNat 6)) (.ofNat 11)))),some (.d (.str dI[i2])),some (.d (.str cj[i3].1))]) ?_)
  refine af (s:=jQ.ak 0) (ss:=jQ.from 1) (aW (ρ1:=[some (.d (.int z)),none,none,none,none]) (Γ1:=[]) (v := .d (.int (.ofNat [0,4,0,1,3,0,2,9][i1]))) (aM (u := .d (.lst [.int 0,.int 4,.int 0,.int 1,.int 3,.int 0,.int 2,.int 9])) (v := .d (.int (.ofNat i1))) rfl (aC rfl rfl (hb z 7 i1 h1 rfl)) (bB ?_ (by decide)))) ?_
  ·rw[<-l1',Oc,N8 e1];rfl
  refine af (s:=jQ.ak 1) (ss:=jQ.from 2) (aW (ρ1:=[some (.d (.int z)),some (.d (.int (.ofNat [0,4,0,1,3,0,2,9][i1]))),none,none,none]) (Γ1:=[]) (v := .d (.int (Om z (.ofNat 8)))) (aC rfl rfl rfl)) ?_
  refine af (s:=jQ.ak 2) (ss:=jQ.from 3) (aW (ρ1:=[some (.d (.int z)),some (.d (.int (.ofNat [0,4,0,1,3,0,2,9][i1]))),some (.d (.int (Om z (.ofNat 8)))),none,none]) (Γ1:=[]) (v := .d (.str dI[i2])) (aM (u := .d (au dI)) (v := .d (.int (.ofNat i2))) rfl (aC rfl rfl (hb _ 5 i2 h2 rfl)) (bB ?_ (by decide)))) ?_
  ·rw[Oc,N8 e2];rfl
  refine af (s:=jQ.ak 3) (ss:=jQ.from 4) (aW (ρ1:=[some (.d (.int z)),some (.d (.int (.ofNat [0,4,0,1,3,0,2,9][i1]))),some (.d (.int (Om z (.ofNat 8)))),some (.d (.str dI[i2])),none]) (Γ1:=[]) (v := .d (.int (Om (Om z (.ofNat 8)) (.ofNat 6)))) (aC rfl rfl rfl)) ?_
  refine af (s:=jQ.ak 4) (ss:=jQ.from 5) (aW (ρ1:=[some (.d (.int z)),some (.d (.int (.ofNat [0,4,0,1,3,0,2,9][i1]))),some (.d (.int (Om (Om z (.ofNat 8)) (.ofNat 6)))),some (.d (.str dI[i2])),none]) (Γ1:=[]) (v := .d (.str cj[i3].1)) (aM (aM (v := .d (.int (.ofNat i3))) (w := .d (.tup [.str cj[i3].1,match cj[i3].2 with | some b => .bool b | none => .none])) (az (vs:=[]) (ad:=695) rfl rfl rfl (aN rfl (L8 n)) rfl) (aC rfl rfl (hb _ 10 i3 h3 rfl)) (bB ?_ (by decide))) rfl rfl)) ?_
  ·rw[Oc,N8 e3];rfl
  refine af (s:=jQ.ak 5) (ss:=jQ.from 6) (aW (ρ1:=[some (.d (.int z)),some (.d (.int (.ofNat [0,4,0,1,3,0,2,9][i1]))),some (.d (.int (Om (Om z (.ofNat 8)) (.ofNat 6)))),some (.d (.str dI[i2])),some (.d (.str cj[i3].1))]) (Γ1:=[]) (v := .d (.int (Om (Om (Om z (.ofNat 8)) (.ofNat 6)) (.ofNat 11)))) (aC rfl rfl rfl)) ?_
  refine aG (bP (d5 (aj rfl (aj rfl (aj rfl (aj (aC rfl rfl (hb _ 2 i4 h4 rfl)) (aj (aM (u := .d (au [[],d7])) (v := .d (.int (.ofNat i5))) (w := .d (.str [[],d7][i5])) rfl (aC (aC rfl rfl rfl) rfl (hb _ 1 i5 h5 rfl)) (bB ?_ (by decide))) rfl))))) rfl rfl))
  rw[Oc,N8 e5];rfl
section rules
variable{T:Tab}{O:aL}{m:Md}{ρ ρ1 ρ2 UH:aq}{Γ Γ1 Qp S8:ag}{u v w x:V}
end rules
section law
variable{o0 o1 o2 o3 o4 o5 o6 o7:Option Mu}{n:Nat}{nm:Tx×Tx}
noncomputable abbrev bQ(o0 o1 o2 o3 o4 o5 o6 o7:Option Mu)(B:List (Tx×Tx))(L:List D)(K:List (Tx×Tx)):ag:=[o0,o1,o2,o3,o4,o5,o6,o7,some (.sd (aD B)),some (.list L),some (.list (K.map bx))]
theorem FD{B:List (Tx×Tx)}{F:cH}(h:fw B F)(L:List D)(K:List (Tx×Tx)):calls TT FF (n+2) true 55 [.loc 8] (bQ o0 o1 o2 o3 o4 o5 o6 o7 B L K) = .ok (.d (fZ F)) (bQ o0 o1 o2 o3 o4 o5 o6 o7 B L K):=by
 have:calls TT FF (n+2) true 55 [.loc 8] (bQ o0 o1 o2 o3 o4 o5 o6 o7 B L K) = .ok (.d (.lst [(bw tK (aD B)).getD .none,(bw tV (aD B)).getD .none,(bw FR (aD B)).getD .none,(bw tZ (aD B)).getD .none])) (bQ o0 o1 o2 o3 o4 o5 o6 o7 B L K):=by kernel_rfl
 rw[this];simp only[h.look]
theorem rQ{B:List (Tx×Tx)}{L:List D}{K:List (Tx×Tx)}{k v:Tx}(hl:B.length<=1000):ku (bQ o0 o1 o2 o3 o4 o5 o6 o7 B L K) (.d (.str k)) (.d (.str v)) (.loc 8)=some (bQ o0 o1 o2 o3 o4 o5 o6 o7 (aQ k v B) L K):=by
 exact(l9 rfl (bg ‹_›)).trans rfl
theorem Dp{B:List (Tx×Tx)}{L:List D}{K:List (Tx×Tx)}{k:Tx}(hl:B.length<=1000):method (bQ o0 o1 o2 o3 o4 o5 o6 o7 B L K) .pop (.loc 8) [.d (.str k),.d .none]=some (.d (oD (bw k B)),bQ o0 o1 o2 o3 o4 o5 o6 o7 (dh k B) L K):=by
 show cond (true&&ay (aD B).length) _ _=_
 rw[aO (by simp only[aD,Oe];exact bg ‹_›),Bool.and_self,cond_true,rH,lp];rfl
theorem uD(s:Option Tx):oZ (.d (oD s))=true:=by cases s<;>rfl
theorem Ll{B:List (Tx×Tx)}{L:List D}{K:List (Tx×Tx)}{d:Tx}(hd:d∈dI)(hl:B.length<=1000):calls TT FF (n+1) true 56 [.loc 8,.d (au [nm.1,nm.2]),.d (.str d)] (bQ o0 o1 o2 o3 o4 o5 o6 o7 B L K) = .ok (.d .none) (bQ o0 o1 o2 o3 o4 o5 o6 o7 (hV nm d B) L K):=by
 refine aH (f:=Jh) rfl rfl (kI (ρ:=[some (.loc 8),some (.d (au [nm.1,nm.2])),some (.d (.str d))]) ?_)
 simp only[dI,N7,Ou,or_false] at hd;rcases hd with rfl | rfl | rfl | rfl | rfl | rfl
 ·rfl
 ·exact af (aV rfl (af (bo (v := .d (.str gC)) rfl (eP (x := .loc 8) (y := .d (.str nm.1)) rfl rfl (rQ hl))) rfl)) rfl
 ·exact af (aw rfl (af (aV rfl (af (bo (v := .d (.str gC)) rfl (eP (x := .loc 8) (y := .d (.str nm.2)) rfl rfl (rQ hl))) rfl)) rfl)) rfl
 ·exact af (aw rfl (af (aw rfl (af (aV rfl (af (eM (jH (x := .loc 8) rfl rfl (aj rfl (aj rfl rfl)) (Dp hl)) (uD _)) rfl)) rfl)) rfl)) rfl
 ·exact af (aw rfl (af (aw rfl (af (aw rfl (af (aV rfl (af (eM (jH (x := .loc 8) rfl rfl (aj rfl (aj rfl rfl)) (Dp hl)) (uD _)) rfl)) rfl)) rfl)) rfl)) rfl
 ·exact af (aw rfl (af (aw rfl (af (aw rfl (af (aw rfl (af (aV rfl (af (bo (v := .d (.str gC)) rfl (eP (x := .loc 8) (y := .d (.str tZ)) rfl rfl (rQ hl))) rfl)) rfl)) rfl)) rfl)) rfl)) rfl
theorem Hp(n:Nat)(d:Tx):((cj.map (·.1)).map fun t=>([0,1,2]:List Nat).map fun l=>[[],d7].map fun i=>calls TT FF (n+2) true 54 [.d (cL (1,t,d,l,i))] [])=(cj.map (·.1)).map fun t=>([0,1,2]:List Nat).map fun l=>[[],d7].map fun i=>RG.ok (.d (gL (1,t,d,l,i))) []:=by kernel_rfl
theorem Ib(n:Nat)(t d i:Tx)(l:Nat):calls TT FF (n+2) true 54 [.d (cL (2,t,d,l,i))] []=RG.ok (.d (gL (2,t,d,l,i))) []:=by kernel_rfl
theorem G9(n:Nat)(t d i:Tx)(l:Nat):calls TT FF (n+2) true 54 [.d (cL (9,t,d,l,i))] []=RG.ok (.d (gL (9,t,d,l,i))) []:=by kernel_rfl
theorem L9(n:Nat){p:Plan}(hp:bV p)(h0:p.1≠0)(h3:p.1≠3)(h4:p.1≠4):calls TT FF (n+2) true 54 [.d (cL p)] []=RG.ok (.d (gL p)) []:=by
 obtain⟨c,t,d,l,i⟩:=p;have hc:=hp.c;simp only[codes,N7,Ou,or_false] at hc h0 h3 h4;rcases hc with rfl | rfl | rfl | rfl | rfl | rfl
 ·exact absurd rfl h0
 ·exact absurd rfl h4
 ·exact aS (aS (aS (Hp n d) t hp.t) l hp.l) i hp.i
 ·exact absurd rfl h3
 ·exact Ib n t d i l
 ·exact G9 n t d i l
noncomputable def oB:Option Bool->D
 |some b => .bool b
 |none => .none
noncomputable abbrev bI:av:=(jN.ak 1).wb
noncomputable abbrev e9:av:=(bI.ak 7).wb
theorem A1 : ∀q∈cj,so q.1=q.2:=by decide
theorem HJ(n:Nat)(Γ:ag)(a0 a1 a2 a3 a4 a5 a6 a7 a8 a10 a11 a12 cq a14:Option V):(cj.map fun q=>(e9.ak 0).ex (TG j0) (calls TT FF (n+1)) .free [a0,a1,a2,a3,a4,a5,a6,a7,a8,some (.d (.str q.1)),a10,a11,a12,cq,a14] Γ)=cj.map fun q=>Res.ok .next [a0,a1,a2,a3,a4,a5,a6,a7,a8,some (.d (.str q.1)),a10,a11,a12,some (.d (oB q.2)),a14] Γ:=by kernel_rfl
noncomputable def nU:List Tx:=[[],[111],[97]]
theorem rC : ∀q∈cj,q.2=none->q.1∈nU:=by decide
theorem GU(n:Nat)(Γ:ag)(a0 a1 a2 a3 a4 a5 a6 a7 a8 a10 a11 a12 a14:Option V):(nU.map fun q=>(e9.ak 1).ex (TG j0) (calls TT FF (n+1)) .free [a0,a1,a2,a3,a4,a5,a6,a7,a8,some (.d (.str q)),a10,a11,a12,some (.d .none),a14] Γ)=nU.map fun q=>Res.ok (.ret (.d (jJ q))) [a0,a1,a2,a3,a4,a5,a6,a7,a8,some (.d (.str q)),a10,a11,a12,some (.d .none),some (.d (.str ([101,120,112,101,99,116,101,100,32,98,111,111,108,101,97,110,32,118,97,108,117,101,32,98,117,116,32,103,111,116,32,34]++(q++[34]))))] Γ:=by kernel_rfl
theorem NS(a k:Nat):cQ (.ofNat a) (.ofNat 1) (k+1) = .d (.int (.ofNat a))::cQ (.ofNat (a+1)) (.ofNat 1) k:=rfl
noncomputable abbrev dG(nm:Tx×Tx)(ps:List (Tx×Tx))(pls:List Plan)(a7 a8 a9 a10 a11 a12 cq a14:Option V):aq:=[some (.loc 8),some (.d (au [nm.1,nm.2])),some (.d (.lst (ps.map bx))),some (.d (.lst (pls.map cL))),some (.d (.str cG)),some (.loc 9),some (.loc 10),a7,a8,a9,a10,a11,a12,cq,a14]
noncomputable abbrev iV(nm:Tx×Tx)(ps:List (Tx×Tx))(pls:List Plan)(j:Nat)(p:Plan)(cq a14:Option V):aq:=dG nm ps pls (some (.d (.int (.ofNat j)))) (some (.d (.int (.ofNat p.1)))) (some (.d (.str p.2.1))) (some (.d (.str p.2.2.1))) (some (.d (.int (.ofNat p.2.2.2.1)))) (some (.d (.str p.2.2.2.2))) cq a14
theorem Ld{ps:List (Tx×Tx)}{pls:List Plan}{j:Nat}{q:Tx×Tx}{p:Plan}(hq:ps[j]?=some q)(hp:pls[j]?=some p)(hok:bV p)(hps:ps.length<=100)(hpls:pls.length<=100){B:List (Tx×Tx)}{F:cH}(hB:fw B F)(hBl:B.length<=100){L:List D}(hL:L.length<=100){K:List (Tx×Tx)}{a8 a9 a10 a11 a12 cq a14:Option V}{r:Res Fl}:
  (bI.from 5).ex (TG j0) (calls TT FF (n+2)) .free (iV nm ps pls j p cq a14) (bQ o0 o1 o2 o3 o4 o5 o6 o7 (hV nm p.2.2.1 (aQ nm.2 q.2 (aQ nm.1 q.1 B))) (L++[entry (bK nm q F)]) K)=r->
  bI.ex (TG j0) (calls TT FF (n+2)) .free (dG nm ps pls (some (.d (.int (.ofNat j)))) a8 a9 a10 a11 a12 cq a14) (bQ o0 o1 o2 o3 o4 o5 o6 o7 B L K)=r:=by
 intro hr;have h1:=ej (k:=nm.1) (v:=q.1) (l:=B);have h2:=ej (k:=nm.2) (v:=q.2) (l:=aQ nm.1 q.1 B);have hit : ∀Γ,cF Γ (.d (.lst (ps.map bx))) (.d (.int (.ofNat j)))=some (.d (bx q)):=fun Γ=>bB (by rw[Oc,hq];rfl) (by simp;exact bg ‹_›)
 have hpt : ∀Γ,cF Γ (.d (.lst (pls.map cL))) (.d (.int (.ofNat j)))=some (.d (cL p)):=fun Γ=>bB (by rw[Oc,hp];rfl) (by simp;exact bg ‹_›)
 have hB1:fw (aQ nm.2 q.2 (aQ nm.1 q.1 B)) (bK nm q F):=(hB.put nm.1 q.1).put nm.2 q.2;refine af (s:=bI.ak 0) (ss:=bI.from 1) (ρ1:=dG nm ps pls (some (.d (.int (.ofNat j)))) a8 a9 a10 a11 a12 cq a14) (Γ1:=bQ o0 o1 o2 o3 o4 o5 o6 o7 (aQ nm.1 q.1 B) L K) (bo (v := .d (.str q.1)) (aM (aM rfl rfl (hit _)) rfl rfl) (eP (x := .loc 8) (y := .d (.str nm.1)) rfl rfl (rQ (bg ‹_›)))) ?_
 refine af (s:=bI.ak 1) (ss:=bI.from 2) (ρ1:=dG nm ps pls (some (.d (.int (.ofNat j)))) a8 a9 a10 a11 a12 cq a14) (Γ1:=bQ o0 o1 o2 o3 o4 o5 o6 o7 (aQ nm.2 q.2 (aQ nm.1 q.1 B)) L K) (bo (v := .d (.str q.2)) (aM (aM rfl rfl (hit _)) rfl rfl) (eP (x := .loc 8) (y := .d (.str nm.2)) rfl rfl (rQ (bX h1 hBl)))) ?_
 refine af (s:=bI.ak 2) (ss:=bI.from 3) (ρ1:=dG nm ps pls (some (.d (.int (.ofNat j)))) a8 a9 a10 a11 a12 cq a14) (Γ1:=bQ o0 o1 o2 o3 o4 o5 o6 o7 (aQ nm.2 q.2 (aQ nm.1 q.1 B)) (L++[entry (bK nm q F)]) K) (dw (n:=9) (l:=L) (x:=entry (bK nm q F)) (ρ1:=dG nm ps pls (some (.d (.int (.ofNat j)))) a8 a9 a10 a11 a12 cq a14) (Γ1:=bQ o0 o1 o2 o3 o4 o5 o6 o7 (aQ nm.2 q.2 (aQ nm.1 q.1 B)) L K) rfl rfl (d5 (vs:=[.d (.str cG),.d (.int 1),.d (fZ (bK nm q F))]) (aj rfl (aj rfl (aj (az (vs:=[.loc 8]) (ad:=792) rfl rfl rfl (dj (FD hB1 L K)) rfl) rfl))) rfl rfl) rfl (aO (ot ‹_›))) ?_
 refine af (s:=bI.ak 3) (ss:=bI.from 4) (ρ1:=iV nm ps pls j p cq a14) (Γ1:=bQ o0 o1 o2 o3 o4 o5 o6 o7 (aQ nm.2 q.2 (aQ nm.1 q.1 B)) (L++[entry (bK nm q F)]) K) (bo (v := .d (cL p)) (aM rfl rfl (hpt _)) rfl) ?_
 exact af (s:=bI.ak 4) (ss:=bI.from 5) (eM (v := .d .none) (az (ad:=799) rfl rfl rfl (dj (Ll hok.d (jx h2 h1 hBl))) rfl) rfl) hr
structure iY(K:List (Tx×Tx))(m:Nat):Prop where
 at_ : ∀p∈K,p.1∈atT/\p.2∈atT
 len:K.length<=m
noncomputable def nL(n:Nat):V->aq->ag->Res Fl:=fun v ρ Γ=>((jN.ak 1).ft.bC (calls TT FF (n+2)) .free (TG j0) v ρ Γ).bind fun _ ρ Γ=>bI.ex (TG j0) (calls TT FF (n+2)) .free ρ Γ
inductive AD(o0 o1 o2 o3 o4 o5 o6 o7:Option Mu)(nm:Tx×Tx)(ps:List (Tx×Tx))(pls:List Plan)(R:Res Fl)(sp:D×cH×List D):Prop
 |done (B:List (Tx×Tx)) (hB:fw B sp.2.1) (K:List (Tx×Tx)) (b7 b8 b9 jM jO jF jK jT:Option V) (e:R = .ok .next (dG nm ps pls b7 b8 b9 jM jO jF jK jT) (bQ o0 o1 o2 o3 o4 o5 o6 o7 B sp.2.2 K)) (h:sp.1=kS K) (hK:iY K ps.length)
 |ret (B:List (Tx×Tx)) (hB:fw B sp.2.1) (K:List (Tx×Tx)) (ρ:aq) (e:R = .ok (.ret (.d sp.1)) ρ (bQ o0 o1 o2 o3 o4 o5 o6 o7 B sp.2.2 K))
inductive x9(nm:Tx×Tx)(ps:List (Tx×Tx))(pls:List Plan)(j:Nat)(q:Tx×Tx)(p:Plan)(F:cH)(L:List D)(K:List (Tx×Tx))(G:List (Tx×Tx)->ag)(R:Res Fl):Prop
 |next (K':List (Tx×Tx)) (b8 b9 jM jO jF jK jT:Option V) (e:R = .ok .next (dG nm ps pls (some (.d (.int (.ofNat j)))) b8 b9 jM jO jF jK jT) (G K')) (h:K'=K\/K'=K++[q]) (s : ∀k,dY nm q p F L K k=k K')
 |brk (b8 b9 jM jO jF jK jT:Option V) (e:R = .ok .brk (dG nm ps pls (some (.d (.int (.ofNat j)))) b8 b9 jM jO jF jK jT) (G K)) (s : ∀k,dY nm q p F L K k=(kS K,cW nm p.2.2.1 (bK nm q F),L++[entry (bK nm q F)]))
 |ret (d:D) (ρ:aq) (e:R = .ok (.ret (.d d)) ρ (G K)) (s : ∀k,dY nm q p F L K k=(d,cW nm p.2.2.1 (bK nm q F),L++[entry (bK nm q F)]))
section pass
variable{ps:List (Tx×Tx)}{pls:List Plan}{j:Nat}{q:Tx×Tx}{p:Plan}{F:cH}{L L₁:List D}{K B₁:List (Tx×Tx)}{cq a14:Option V}
noncomputable abbrev uX(o0 o1 o2 o3 o4 o5 o6 o7:Option Mu)(n:Nat)(nm:Tx×Tx)(ps:List (Tx×Tx))(pls:List Plan)(j:Nat)(p:Plan)(cq a14:Option V)(B₁:List (Tx×Tx))(L₁:List D)(K:List (Tx×Tx)):Res Fl:=(bI.from 5).ex (TG j0) (calls TT FF (n+2)) .free (iV nm ps pls j p cq a14) (bQ o0 o1 o2 o3 o4 o5 o6 o7 B₁ L₁ K)
theorem vf (hp:pls[j]?=some p) (hok:bV p) (hpls:pls.length<=100) (g:(I' p.1 0||(I' p.1 3||I' p.1 4))=false)
  (k5:(bI.ak 5).ex (TG j0) (calls TT FF (n+2)) .free (iV nm ps pls j p cq a14) (bQ o0 o1 o2 o3 o4 o5 o6 o7 B₁ L₁ K) = .ok .next (iV nm ps pls j p cq a14) (bQ o0 o1 o2 o3 o4 o5 o6 o7 B₁ L₁ K))
  (k6:(bI.ak 6).wt.ev (calls TT FF (n+2)) .free (TG j0) (iV nm ps pls j p cq a14) (bQ o0 o1 o2 o3 o4 o5 o6 o7 B₁ L₁ K) = .ok true (iV nm ps pls j p cq a14) (bQ o0 o1 o2 o3 o4 o5 o6 o7 B₁ L₁ K)) (s : ∀k,dY nm q p F L K k=(gL p,cW nm p.2.2.1 (bK nm q F),L++[entry (bK nm q F)])) :
  x9 nm ps pls j q p F L K (bQ o0 o1 o2 o3 o4 o5 o6 o7 B₁ L₁) (uX o0 o1 o2 o3 o4 o5 o6 o7 n nm ps pls j p cq a14 B₁ L₁ K):=
 .ret _ _ (af (s:=bI.ak 5) (ss:=bI.from 6) k5 (aG (s:=bI.ak 6) (ss:=bI.from 7) (aV k6 (aG (bP (az (ad:=787) rfl (aj (aM (u := .d (.lst (pls.map cL))) (v := .d (.int (.ofNat j))) (w := .d (cL p)) rfl rfl (bB (by rw[Oc,hp];rfl) (by rw[Oe];exact N0 hpls (by decide)))) rfl) rfl (aN rfl (L9 n hok (fun e=>by rw[e] at g;exact absurd g (by decide)) (fun e=>by rw[e] at g;exact absurd g (by decide)) (fun e=>by rw[e] at g;exact absurd g (by decide)))) rfl)))))) s
theorem GZ(hq:ps[j]?=some q)(hps:ps.length<=100)(hK:K.length<=100){a8 a9 a10 a11 a12:Option V}:(e9.ak 2).ex (TG j0) (calls TT FF (n+2)) .free (dG nm ps pls (some (.d (.int (.ofNat j)))) a8 a9 a10 a11 a12 (some (.d (.bool true))) a14) (bQ o0 o1 o2 o3 o4 o5 o6 o7 B₁ L₁ K) = .ok .next (dG nm ps pls (some (.d (.int (.ofNat j)))) a8 a9 a10 a11 a12 (some (.d (.bool true))) a14) (bQ o0 o1 o2 o3 o4 o5 o6 o7 B₁ L₁ (K++[q])):=by
 refine aV (ρ1:=dG nm ps pls (some (.d (.int (.ofNat j)))) a8 a9 a10 a11 a12 (some (.d (.bool true))) a14) (Γ1:=bQ o0 o1 o2 o3 o4 o5 o6 o7 B₁ L₁ K) rfl ?_
 refine af (dw (n:=10) (l:=K.map bx) (x:=bx q) (ρ1:=dG nm ps pls (some (.d (.int (.ofNat j)))) a8 a9 a10 a11 a12 (some (.d (.bool true))) a14) (Γ1:=bQ o0 o1 o2 o3 o4 o5 o6 o7 B₁ L₁ K) rfl rfl (aM (u := .d (.lst (ps.map bx))) (v := .d (.int (.ofNat j))) rfl rfl (bB (by rw[Oc,hq];rfl) (by rw[Oe];exact N0 hps (by decide)))) rfl (aO (by rw[Oe];exact N0 (QK hK) (by decide)))) ?_
 show Res.ok _ _ [o0,o1,o2,o3,o4,o5,o6,o7,some (.sd (aD B₁)),some (.list L₁),some (.list (K.map bx++[bx q]))]=_
 rw[bQ,OM];rfl
theorem D8(hq:ps[j]?=some q)(hp:pls[j]?=some p)(hok:bV p)(hps:ps.length<=100)(hpls:pls.length<=100)(hK:K.length<=100):
  x9 nm ps pls j q p F L K (bQ o0 o1 o2 o3 o4 o5 o6 o7 B₁ L₁) (uX o0 o1 o2 o3 o4 o5 o6 o7 n nm ps pls j p cq a14 B₁ L₁ K):=by
 obtain⟨c,t,d,l,i⟩:=p;have hc:=hok.c;simp only[codes,N7,Ou,or_false] at hc;rcases hc with rfl | rfl | rfl | rfl | rfl | rfl
 ·obtain⟨tq,htq,rfl⟩:=Q2.mp hok.t
  have hso:=A1 tq htq;have h70:=aS (HJ (n+1) (bQ o0 o1 o2 o3 o4 o5 o6 o7 B₁ L₁ K) (some (.loc 8)) (some (.d (au [nm.1,nm.2]))) (some (.d (.lst (ps.map bx)))) (some (.d (.lst (pls.map cL)))) (some (.d (.str cG))) (some (.loc 9)) (some (.loc 10)) (some (.d (.int (.ofNat j)))) (some (.d (.int (.ofNat 0)))) (some (.d (.str d))) (some (.d (.int (.ofNat l)))) (some (.d (.str i))) cq a14) tq htq;cases hb:tq.2 with
  |none=>
   rw[hb] at h70 hso;have h71:=aS (GU (n+1) (bQ o0 o1 o2 o3 o4 o5 o6 o7 B₁ L₁ K) (some (.loc 8)) (some (.d (au [nm.1,nm.2]))) (some (.d (.lst (ps.map bx)))) (some (.d (.lst (pls.map cL)))) (some (.d (.str cG))) (some (.loc 9)) (some (.loc 10)) (some (.d (.int (.ofNat j)))) (some (.d (.int (.ofNat 0)))) (some (.d (.str d))) (some (.d (.int (.ofNat l)))) (some (.d (.str i))) a14) tq.1 (rC tq htq hb);exact .ret _ _ (af (s:=bI.ak 5) (ss:=bI.from 6) (aw rfl rfl) (af (s:=bI.ak 6) (ss:=bI.from 7) (aw rfl rfl) (aG (s:=bI.ak 7) (ss := .nil) (aV rfl (af (s:=e9.ak 0) (ss:=e9.from 1) h70 (aG (s:=e9.ak 1) (ss:=e9.from 2) h71)))))) fun k=>j4 hso
  |some b=>
   rw[hb] at h70 hso;cases b with
   |true=>exact .next (K++[q]) _ _ _ _ _ _ _ (af (s:=bI.ak 5) (ss:=bI.from 6) (aw rfl rfl) (af (s:=bI.ak 6) (ss:=bI.from 7) (aw rfl rfl) (af (s:=bI.ak 7) (ss := .nil) (aV rfl (af (s:=e9.ak 0) (ss:=e9.from 1) h70 (af (s:=e9.ak 1) (ss:=e9.from 2) (aw rfl rfl) (af (s:=e9.ak 2) (ss := .nil) (GZ hq hps hK) rfl)))) rfl))) (.inr rfl) fun k=>j4 hso
   |false=>exact .next K _ _ _ _ _ _ _ (af (s:=bI.ak 5) (ss:=bI.from 6) (aw rfl rfl) (af (s:=bI.ak 6) (ss:=bI.from 7) (aw rfl rfl) (af (s:=bI.ak 7) (ss := .nil) (aV rfl (af (s:=e9.ak 0) (ss:=e9.from 1) h70 (af (s:=e9.ak 1) (ss:=e9.from 2) (aw rfl rfl) (af (s:=e9.ak 2) (ss := .nil) (aw rfl rfl) rfl)))) rfl))) (.inl rfl) fun k=>j4 hso
 ·exact .next K _ _ _ _ _ _ _ (af (s:=bI.ak 5) (ss:=bI.from 6) (aw rfl rfl) (af (s:=bI.ak 6) (ss:=bI.from 7) (aw rfl rfl) (af (s:=bI.ak 7) (ss := .nil) (aw rfl rfl) rfl))) (.inl rfl) fun k=>rfl
 ·exact vf hp hok hpls rfl (aw rfl rfl) rfl fun k=>rfl
 ·exact .brk _ _ _ _ _ _ _ (EB (s:=bI.ak 5) (ss:=bI.from 6) (aV rfl rfl)) fun k=>rfl
 ·exact vf hp hok hpls rfl (aw rfl rfl) rfl fun k=>rfl
 ·exact vf hp hok hpls rfl (aw rfl rfl) rfl fun k=>rfl
end pass
theorem iY.app{K:List (Tx×Tx)}{m:Nat}{q:Tx×Tx}(h:iY K m)(hq:q.1∈atT/\q.2∈atT):iY (K++[q]) (m+1):=⟨fun x hx=>by
 rcases Qq.mp hx with h' | h'
 ·exact h.at_ x h'
 ·rw[O7.mp h'];exact hq,by rw[N1];exact RY h.len 1⟩
theorem iY.up{K:List (Tx×Tx)}{m k:Nat}(h:iY K m)(hk:m<=k):iY K k:=⟨h.at_,N0 h.len hk⟩
theorem oW{α:Type}{l d r:List α}{q:α}(e:l=d++q::r):l[d.length]?=some q:=by
 rw[e,Ov (Ox _),P6];rfl
theorem len_app{α:Type}{l d r:List α}{q:α}(e:l=d++q::r):d.length+(r.length+1)=l.length:=by
 rw[e,N1];rfl
theorem wj{ps:List (Tx×Tx)}{pls:List Plan}(hps:ps.length<=4)(hpl:pls.length=4)(hok : ∀p∈pls,bV p)(hat : ∀p∈ps,p.1∈atT/\p.2∈atT)(qs:List (Tx×Tx)): ∀(done:List (Tx×Tx)) (prest pdone:List Plan) (B:List (Tx×Tx)) (F:cH) (L:List D) (K:List (Tx×Tx)) (a7 a8 a9 a10 a11 a12 cq a14:Option V),ps=done++qs->pls=pdone++prest->done.length=pdone.length->fw B F->B.length+3 * qs.length<=40->L.length+qs.length<=40->iY K done.length->
  AD o0 o1 o2 o3 o4 o5 o6 o7 nm ps pls (bO (nL n) (cQ (.ofNat done.length) (.ofNat 1) qs.length) (dG nm ps pls a7 a8 a9 a10 a11 a12 cq a14) (bQ o0 o1 o2 o3 o4 o5 o6 o7 B L K)) (spec nm qs prest F L K):=by
 induction qs with
 |nil=>exact fun done prest pdone B F L K a7 a8 a9 a10 a11 a12 cq a14 e1 e2 e3 hB hBl hL hK => .done B hB K a7 a8 a9 a10 a11 a12 cq a14 rfl rfl (hK.up (by rw[e1,OE];exact Ox _))
 |cons q qs ih=>
  intro done prest pdone B F L K a7 a8 a9 a10 a11 a12 cq a14 e1 e2 e3 hB hBl hL hK;have hlen:=len_app e1;cases prest with
  |nil=>
   rw[e2,OE] at hpl;exact kn (cb (e3.trans hpl).symm) (N0 (cb hlen) hps)
  |cons p prest=>
  have hq:=oW e1;have hp:pls[done.length]?=some p:=e3▸oW e2;have hpok:=hok p (Og hp);rw[N6] at hBl hL;have hl:B.length<=40/\L.length<=40/\K.length<=4/\done.length<ps.length:=by have:=hK.len;lia
  have hl2:(hV nm p.2.2.1 (aQ nm.2 q.2 (aQ nm.1 q.1 B))).length+3 * qs.length<=40/\(L++[entry (bK nm q F)]).length+qs.length<=40:=by
   have h1:=ej (k:=nm.1) (v:=q.1) (l:=B);have h2:=ej (k:=nm.2) (v:=q.2) (l:=aQ nm.1 q.1 B);have h3:=xo nm p.2.2.1 (aQ nm.2 q.2 (aQ nm.1 q.1 B));rw[N1,List.length_singleton]
   lia
  have hB2:fw (hV nm p.2.2.1 (aQ nm.2 q.2 (aQ nm.1 q.1 B))) (cW nm p.2.2.1 (bK nm q F)):=((hB.put nm.1 q.1).put nm.2 q.2).gT nm _;have hst:nL n (.d (.int (.ofNat done.length))) (dG nm ps pls a7 a8 a9 a10 a11 a12 cq a14) (bQ o0 o1 o2 o3 o4 o5 o6 o7 B L K)=uX o0 o1 o2 o3 o4 o5 o6 o7 n nm ps pls done.length p cq a14 (hV nm p.2.2.1 (aQ nm.2 q.2 (aQ nm.1 q.1 B))) (L++[entry (bK nm q F)]) K:=Ld (n:=n) (nm:=nm) (o0:=o0) (o1:=o1) (o2:=o2) (o3:=o3) (o4:=o4) (o5:=o5) (o6:=o6) (o7:=o7) (K:=K) (a8:=a8) (a9:=a9) (a10:=a10) (a11:=a11) (a12:=a12) (cq:=cq) (a14:=a14) hq hp hpok (N0 hps (by decide)) (N0 (Sp hpl) (by decide)) hB (N0 hl.1 (by decide)) (N0 hl.2.1 (by decide)) rfl
  show AD o0 o1 o2 o3 o4 o5 o6 o7 nm ps pls (bO (nL n) (.d (.int (.ofNat done.length))::cQ (.ofNat (done.length+1)) (.ofNat 1) qs.length) _ _) (dY nm q p F L K (spec nm qs prest (cW nm p.2.2.1 (bK nm q F)) (L++[entry (bK nm q F)])))
  cases D8 (n:=n) (nm:=nm) (o0:=o0) (o1:=o1) (o2:=o2) (o3:=o3) (o4:=o4) (o5:=o5) (o6:=o6) (o7:=o7) (F:=F) (L:=L) (L₁:=L++[entry (bK nm q F)]) (K:=K) (B₁:=hV nm p.2.2.1 (aQ nm.2 q.2 (aQ nm.1 q.1 B))) (cq:=cq) (a14:=a14) hq hp hpok (N0 hps (by decide)) (N0 (Sp hpl) (by decide)) (N0 hl.2.2.1 (by decide)) with
  |next K' b8 b9 jM jO jF jK jT e h s=>
   rw[s,bW (fb:=nL n) (v := .d (.int (.ofNat done.length))) (hst.trans e) rfl];have:=ih (done++[q]) prest (pdone++[p]) _ _ (L++[entry (bK nm q F)]) K' (some (.d (.int (.ofNat done.length)))) b8 b9 jM jO jF jK jT (by rw[e1,Oh];rfl) (by rw[e2,Oh];rfl) (by rw[N1,N1,e3];rfl) hB2 hl2.1 hl2.2 (by
    rw[N1];rcases h with rfl | rfl
    ·exact hK.up (Rj _)
    ·exact hK.app (hat _ (Og hq)))
   rw[N1] at this;exact this
  |brk b8 b9 jM jO jF jK jT e s=>rw[s];exact .done _ hB2 K _ b8 b9 jM jO jF jK jT (BC (fb:=nL n) (v := .d (.int (.ofNat done.length))) (hst.trans e)) rfl (hK.up (Oy hl.2.2.2))
  |ret d ρ e s=>rw[s];exact .ret _ hB2 K ρ (jE (fb:=nL n) (v := .d (.int (.ofNat done.length))) (hst.trans e))
end law
theorem LF(nm:Tx×Tx)(F:cH)(L:List D)(K:List (Tx×Tx))(prest:List Plan):spec nm [] prest F L K=(kS K,F,L):=rfl
theorem Mt{o0 o1 o2 o3 o4 o5 o6 o7:Option Mu}(n:Nat){nm:Tx×Tx}{ps:List (Tx×Tx)}{pls:List Plan}(hps:ps.length<=4)(hpl:pls.length=4)(hok : ∀p∈pls,bV p)(hat : ∀p∈ps,p.1∈atT/\p.2∈atT){B:List (Tx×Tx)}{F:cH}(hB:fw B F)(hBl:B.length<=20):
  ∃B' x,fw B' (spec nm ps pls F [] []).2.1/\calls TT FF (n+3) true 57 [.loc 8,.d (au [nm.1,nm.2]),.d (.lst (ps.map bx)),.d (.lst (pls.map cL)),.d (.str cG),.loc 9] [o0,o1,o2,o3,o4,o5,o6,o7,some (.sd (aD B)),some (.list [])] = .ok (.d (spec nm ps pls F [] []).1) [o0,o1,o2,o3,o4,o5,o6,o7,some (.sd (aD B')),some (.list (spec nm ps pls F [] []).2.2),x]:=by
 have hor:=wj (n:=n) (nm:=nm) (o0:=o0) (o1:=o1) (o2:=o2) (o3:=o3) (o4:=o4) (o5:=o5) (o6:=o6) (o7:=o7) hps hpl hok hat ps [] pls [] B F [] [] none none none none none none none none rfl rfl rfl hB (bX hBl (eR 3 hps)) (by simp;exact bg ‹_›) ⟨by simp,by simp⟩
 have hrng : ∀r,bO (nL n) (cQ (.ofNat 0) (.ofNat 1) ps.length) (dG nm ps pls none none none none none none none none) (bQ o0 o1 o2 o3 o4 o5 o6 o7 B [] [])=r->(jN.ak 1).ex (TG j0) (calls TT FF (n+2)) .free (dG nm ps pls none none none none none none none none) (bQ o0 o1 o2 o3 o4 o5 o6 o7 B [] [])=r:=fun r hr=>
  cJ (v := .d (.eF 0 (.ofNat (ps.map bx).length) 1)) (cv (aj (cv rfl (gY (by simp;exact bg ‹_›)) rfl) rfl) rfl rfl) (vs:=cQ (.ofNat 0) (.ofNat 1) ps.length) (by rw[Oe];exact kX (bg ‹_›)) hr
 have h0:(jN.ak 0).ex (TG j0) (calls TT FF (n+2)) .free [some (.loc 8),some (.d (au [nm.1,nm.2])),some (.d (.lst (ps.map bx))),some (.d (.lst (pls.map cL))),some (.d (.str cG)),some (.loc 9),none,none,none,none,none,none,none,none,none] [o0,o1,o2,o3,o4,o5,o6,o7,some (.sd (aD B)),some (.list [])] = .ok .next (dG nm ps pls none none none none none none none none) (bQ o0 o1 o2 o3 o4 o5 o6 o7 B [] []):=rfl
 rcases hor with⟨B',hB',K',b7,b8,b9,jM,jO,jF,jK,jT,h1,h2,h3⟩ | ⟨B',hB',K',O3,h1⟩
 ·obtain⟨YC,h43⟩:=II n (ps:=K') h3.at_ (by have:=h3.len;exact bg (N0 ‹_› ‹_›))
  refine⟨B',none,hB',aH (f:=Mine.wj) rfl rfl (aR (ρ:=[some (.loc 8),some (.d (au [nm.1,nm.2])),some (.d (.lst (ps.map bx))),some (.d (.lst (pls.map cL))),some (.d (.str cG)),some (.loc 9),some (.d (.lst (K'.map bx))),b7,b8,b9,jM,jO,jF,jK,jT]) ?_)⟩
  refine af (s:=jN.ak 0) (ss:=jN.from 1) h0 (af (s:=jN.ak 1) (ss:=jN.from 2) (hrng _ h1) ?_)
  rw[h2];exact aG (bP (d5 (vs:=[.d (.int 0),.d (.str (gg K'))]) (aj rfl (aj (fe (ad:=712) rfl (aj (fF rfl rfl) rfl) rfl (aN rfl h43) rfl) rfl)) rfl rfl))
 ·exact⟨B',some (.list (K'.map bx)),hB',aH (f:=Mine.wj) rfl rfl (aR (af (s:=jN.ak 0) (ss:=jN.from 1) h0 (aG (s:=jN.ak 1) (ss:=jN.from 2) (hrng _ h1))))⟩
noncomputable def sc:Tx:=[115,99,97,108,97,114]
noncomputable def nn:Tx:=[110,111,110,101]
noncomputable abbrev m4(k x:Tx)(w:Int):Option Mu:=some (.inst 438 [(21,.d (.str k)),(1,.d (.str x)),(22,.d (.lst [])),(23,.d (.bool false)),(24,.d (.bool false)),(25,.d (.int w))])
noncomputable abbrev qQ(dp:Int):Option Mu:=some (.inst 679 [(9,.loc 1),(10,.loc 2),(11,.d (.int 40)),(12,.d (.none)),(13,.d (.int dp)),(14,.d (.int 0)),(15,.d (.int 0)),(16,.d (.none)),(17,.d (.none)),(18,.loc 3),(19,.loc 4),(20,.loc 5)])
noncomputable abbrev qP(plans nmD:D):Option Mu:=some (.vd [([114,117,110],.d (.val (.ref 759))),([112,108,97,110],.d plans),([110,97,109,101,115],.d nmD),([108,111,103],.loc 6)])
structure VS where
 k0:Tx
 x0:Tx
 w0:Int
 k1:Tx
 x1:Tx
 w1:Int
 zx:Tx
 zw:Int
structure OS where
 bk:Option Mu
 lg:Option Mu
 kp:Option Mu
 K:Option Mu
noncomputable abbrev HG(dp:Int)(plans nmD:D)(vs:List (Tx×V))(L:List D)(zx:Tx)(zw:Int)(o:OS)(T:ag):ag:=qQ dp::qP plans nmD::some (.sd [])::some (.vd vs)::some (.sd [])::some (.sd [])::some (.list L)::m4 sc zx zw::o.bk::o.lg::o.kp::o.K::T
noncomputable def Nc(nm:Tx×Tx):List (Tx×V):=cond (ao nm.1 nm.2) [(tZ,.loc 7),(nm.1,.loc 12)] [(tZ,.loc 7),(nm.1,.loc 12),(nm.2,.loc 13)]
noncomputable def A7(nm:Tx×Tx)(v:VS)(G:ag):ag:=cond (ao nm.1 nm.2) (m4 v.k1 v.x1 v.w1::G) (m4 v.k0 v.x0 v.w0::m4 v.k1 v.x1 v.w1::G)
noncomputable abbrev HV(nm:Tx×Tx)(dp:Int)(plans:D)(L:List D)(v:VS)(o:OS)(G:ag):ag:=HG dp plans (au [nm.1,nm.2]) (Nc nm) L v.zx v.zw o (A7 nm v G)
noncomputable def sv(k x:Tx):Option Tx:=cond (ao k sc) (some x) none
noncomputable def FV(nm:Tx×Tx)(v:VS):cH:=fun w=>cond (ao w nm.2) (sv v.k1 v.x1) (cond (ao w nm.1) (sv v.k0 v.x0) (cond (ao w tZ) (some v.zx) none))
noncomputable def ew(nm:Tx×Tx)(q:Tx×Tx)(v:VS):VS:=⟨sc,q.1,v.w0+1,sc,q.2,cond (ao nm.1 nm.2) (v.w1+1+1) (v.w1+1),v.zx,v.zw⟩
noncomputable def dV(nm:Tx×Tx)(d:Tx)(v:VS):VS:=
 cond (ao d [107,101,121]) (cond (ao nm.1 nm.2) {v with k1:=sc,x1:=gC,w1:=v.w1+1} {v with k0:=sc,x0:=gC,w0:=v.w0+1})
 (cond (ao d [118,97,108,117,101]) {v with k1:=sc,x1:=gC,w1:=v.w1+1}
 (cond (ao d [110,111,32,107,101,121]) (cond (ao nm.1 nm.2) {v with k1:=nn,x1:=[],w1:=v.w1+1} {v with k0:=nn,x0:=[],w0:=v.w0+1})
 (cond (ao d [110,111,32,118,97,108,117,101]) {v with k1:=nn,x1:=[],w1:=v.w1+1}
 (cond (ao d [111,116,104,101,114]) {v with zx:=gC,zw:=v.zw+1} v))))
noncomputable def jB:Tx:=[102,105,108,116,101,114,34,32,115,99,114,105,112,116]
noncomputable abbrev du(nm q:Tx×Tx):aq:=[some (.loc 0),some (.d (au [nm.1,nm.2])),some (.d (.str q.1)),some (.d (.str q.2)),some (.d (.str cG)),some (.d (.str jB)),none]
noncomputable abbrev kj:av := .cons (eu.ak 0) (.cons (eu.ak 1) .nil)
theorem w1(n:Nat)(plans:D)(L:List D)(zx:Tx)(zw:Int)(o:OS)(q:Tx×Tx):(NM.map fun nm=>kj.ex (TG la) (calls TT FF (n+5)) .free (du nm q) (HG 0 plans (au [nm.1,nm.2]) [(tZ,.loc 7)] L zx zw o []))=NM.map fun nm=>Res.ok .next (du nm q) (HV nm 0 plans L (ew nm q ⟨sc,[],0,sc,[],0,zx,zw⟩) o []):=by kernel_rfl
theorem w2(n:Nat)(plans:D)(L:List D)(v:VS)(o:OS)(G:ag)(q:Tx×Tx):(NM.map fun nm=>kj.ex (TG la) (calls TT FF (n+5)) .free (du nm q) (HV nm 0 plans L v o G))=NM.map fun nm=>Res.ok .next (du nm q) (HV nm 0 plans L (ew nm q v) o G):=by kernel_rfl
theorem Lz(n:Nat)(dp:Int)(plans nmD:D)(L:List D)(zx:Tx)(zw:Int)(o:OS):calls TT FF (n+4) true 48 [.loc 0] (HG dp plans nmD [(tZ,.loc 7)] L zx zw o []) = .ok (.d (.lst [.none,.none,.none,.str zx])) (HG dp plans nmD [(tZ,.loc 7)] L zx zw o []):=by kernel_rfl
theorem Gj(n:Nat)(dp:Int)(plans:D)(L:List D)(x0:Tx)(w0:Int)(x1:Tx)(w1:Int)(zx:Tx)(zw:Int)(o:OS)(G:ag):(NM.map fun nm=>[sc,nn].map fun k0=>[sc,nn].map fun k1=>calls TT FF (n+4) true 48 [.loc 0] (HV nm dp plans L ⟨k0,x0,w0,k1,x1,w1,zx,zw⟩ o G))=NM.map fun nm=>[sc,nn].map fun k0=>[sc,nn].map fun k1=>RG.ok (.d (fZ (FV nm ⟨k0,x0,w0,k1,x1,w1,zx,zw⟩))) (HV nm dp plans L ⟨k0,x0,w0,k1,x1,w1,zx,zw⟩ o G):=by kernel_rfl
theorem Mj(n:Nat)(dp:Int)(plans:D)(L:List D)(x0:Tx)(w0:Int)(x1:Tx)(w1:Int)(zx:Tx)(zw:Int)(o:OS)(G:ag):(NM.map fun nm=>dI.map fun d=>calls TT FF (n+4) true 49 [.loc 0,.d (au [nm.1,nm.2]),.d (.str d)] (HV nm dp plans L ⟨sc,x0,w0,sc,x1,w1,zx,zw⟩ o G))=NM.map fun nm=>dI.map fun d=>RG.ok (.d .none) (HV nm dp plans L (dV nm d ⟨sc,x0,w0,sc,x1,w1,zx,zw⟩) o G):=by kernel_rfl
def An(v:VS):Prop:=v.k0∈[sc,nn]/\v.k1∈[sc,nn]
theorem D3(nm q:Tx×Tx)(v:VS):FV nm (ew nm q v)=bK nm q (FV nm v):=by
 funext w
 simp only[FV,ew,bK,upd,sv];have:ao sc sc=true:=dz _;rw[this];simp only[cond_true];cases ao w nm.2<;>cases ao w nm.1<;>rfl
theorem jV{α β:Type}{b:Bool}{f g:α->β}{w:α}{c:β}(h1:f w=c)(h2:g w=c):(cond b f g) w=c:=by cases b<;>assumption
theorem bu{F:cH}{k w:Tx}{x:Option Tx}(h:ao w k=false):upd F k x w=F w:=by
 show cond _ _ _=_
 rw[h];rfl
theorem zf{nm:Tx×Tx}{d w:Tx}{F:cH}(h1:ao w nm.1=false)(h2:ao w nm.2=false)(h3:ao w tZ=false):cW nm d F w=F w:=
 jV (bu h1) (jV (bu h2) (jV (bu h1) (jV (bu h2) (jV (bu h3) rfl))))
theorem AF{nm:Tx×Tx}{w:Tx}{v:VS}(h1:ao w nm.1=false)(h2:ao w nm.2=false)(h3:ao w tZ=false):FV nm v w=none:=by
 show cond _ _ (cond _ _ (cond _ _ _))=_
 rw[h1,h2,h3];rfl
theorem ND(x0:Tx)(w0:Int)(x1:Tx)(w1:Int)(zx:Tx)(zw:Int):(NM.map fun nm=>dI.map fun d=>[tZ,nm.2,nm.1].map fun w=>FV nm (dV nm d ⟨sc,x0,w0,sc,x1,w1,zx,zw⟩) w)=NM.map fun nm=>dI.map fun d=>[tZ,nm.2,nm.1].map fun w=>cW nm d (FV nm ⟨sc,x0,w0,sc,x1,w1,zx,zw⟩) w:=by kernel_rfl
theorem CY{nm:Tx×Tx}(hm:nm∈NM){d:Tx}(hd:d∈dI)(x0:Tx)(w0:Int)(x1:Tx)(w1:Int)(zx:Tx)(zw:Int):FV nm (dV nm d ⟨sc,x0,w0,sc,x1,w1,zx,zw⟩)=cW nm d (FV nm ⟨sc,x0,w0,sc,x1,w1,zx,zw⟩):=by
 funext w
 have h:=aS (aS (aS (ND x0 w0 x1 w1 zx zw) nm hm) d hd) w;cases q1:ao w tZ with
 |true=>exact h (bG q1▸ .head _)
 |false=>cases q2:ao w nm.2 with
  |true=>exact h (bG q2▸ .tail _ (.head _))
  |false=>cases q3:ao w nm.1 with
   |true=>exact h (bG q3▸ .tail _ (.tail _ (.head _)))
   |false=>exact(AF q3 q2 q1).trans ((zf q3 q2 q1).trans (AF q3 q2 q1)).symm
theorem nJ{nm:Tx×Tx}{d:Tx}(x0:Tx)(w0:Int)(x1:Tx)(w1:Int)(zx:Tx)(zw:Int):An (dV nm d ⟨sc,x0,w0,sc,x1,w1,zx,zw⟩):=by
 have h1:sc∈[sc,nn]:=by simp
 have h2:nn∈[sc,nn]:=by simp
 unfold dV;cases ao d [107,101,121] with
 |true=>cases ao nm.1 nm.2<;>exact⟨h1,h1⟩
 |false=>cases ao d [118,97,108,117,101] with
  |true=>exact⟨h1,h1⟩
  |false=>cases ao d [110,111,32,107,101,121] with
   |true=>cases ao nm.1 nm.2<;>first | exact⟨h1,h2⟩ | exact⟨h2,h1⟩
   |false=>cases ao d [110,111,32,118,97,108,117,101] with
    |true=>exact⟨h1,h2⟩
    |false=>cases ao d [111,116,104,101,114]<;>exact⟨h1,h1⟩
theorem AL(n:Nat){nm:Tx×Tx}(hm:nm∈NM)(dp:Int)(plans:D)(L:List D){v:VS}(hv:An v)(o:OS)(G:ag):calls TT FF (n+4) true 48 [.loc 0] (HV nm dp plans L v o G) = .ok (.d (fZ (FV nm v))) (HV nm dp plans L v o G):=by
 obtain⟨k0,x0,w0,k1,x1,w1,zx,zw⟩:=v;exact aS (aS (aS (Gj n dp plans L x0 w0 x1 w1 zx zw o G) nm hm) k0 hv.1) k1 hv.2
theorem Nu(n:Nat){nm:Tx×Tx}(hm:nm∈NM){d:Tx}(hd:d∈dI)(dp:Int)(plans:D)(L:List D)(v:VS)(h0:v.k0=sc)(h1:v.k1=sc)(o:OS)(G:ag):calls TT FF (n+4) true 49 [.loc 0,.d (au [nm.1,nm.2]),.d (.str d)] (HV nm dp plans L v o G) = .ok (.d .none) (HV nm dp plans L (dV nm d v) o G):=by
 obtain⟨k0,x0,w0,k1,x1,w1,zx,zw⟩:=v;subst h0 h1;exact aS (aS (Mj n dp plans L x0 w0 x1 w1 zx zw o G) nm hm) d hd
noncomputable abbrev eB(c:Int)(t:Tx)(ec:D)(lv:Int)(info:Tx)(noted:Bool)(line:Int)(x T:Bool):Option Mu:=some (.exc 84 [(0,.int c),(1,.str t),(2,ec),(3,.int lv),(4,.int 0),(5,.str info),(6,.bool noted),(7,.int line),(8,.lst [])] x T)
section rules
variable{T:Tab}{O:aL}{m:Md}{ρ ρ1 ρ2 UH:aq}{Γ Γ1 Qp S8:ag}{u v w x:V}{G:ag}
theorem cy{a:Ex}{k p:Nat}(h1:a.ev O m T ρ Γ = .ok x ρ1 Γ1)(h2:kB Γ1 k x=some v):(Ex.attr a k p).ev O m T ρ Γ = .ok v ρ1 Γ1:=br h1 (opt h2)
theorem cw{a:Ex}{k p:Nat}(h1:a.ev O m T ρ Γ = .ok x ρ1 Γ1)(h2:q0 Γ1 k v x=some Qp):(Ex.attr a k p).bC O m T v ρ Γ = .ok () ρ1 Qp:=br h1 (eG h2 rfl)
theorem dC{C:Addr}{fs:List (Nat×D)}{xx tt:Bool}{k:Nat}{d:D}(h:dF k fs=some d)(h2:kP (.d d)=some (.d d)):kB (G++[some (.exc C fs xx tt)]) k (.loc G.length)=some (.d d):=by
 show(bq _ G.length).bind _=_
 rw[bN];show((dF k fs).map V.d).bind kP=_
 rw[h];exact h2
theorem dD{C:Addr}{fs:List (Nat×D)}{xx tt:Bool}{k:Nat}{d:D}:q0 (G++[some (.exc C fs xx tt)]) k (.d d) (.loc G.length)=some (G++[some (.exc C (putN k d fs) xx tt)]):=by
 show(bq _ G.length).bind _=_
 rw[bN];exact congrArg some gi
theorem FP{C:Nat}{f:Ex}{es:bf}{vs:List V}{p:Nat}{a:Addr}{xx:Bool}{k:Nat}(hC:T.ca[C]?=some (a,xx,k))(h1:f.ev O m T ρ Γ = .ok (.d (.val (.ref a))) ρ Γ)(h2:es.ev O m T ρ Γ = .ok vs ρ Γ)(hf:ay vs.length=true)(h3:O m.b k (.loc Γ.length::vs) (Γ++[some (cond xx (.exc a [] false false) (.inst a []))]) = .ok (.d .none) Qp):(Ex.new C f es p).ev O m T ρ Γ = .ok (.loc Γ.length) ρ Qp:=by
 have:(I' a a&&ay vs.length)=true:=by rw[OZ,hf];rfl
 exact eG hC (br h1 (br h2 (jf this (eG (a:=Qp) (congrArg RG.vp h3) rfl))))
theorem Bk{e:Ex}{p n:Nat}{C:Addr}{fs:List (Nat×D)}{xx tt:Bool}(h1:e.ev O .free T ρ Γ = .ok (.loc n) ρ1 Γ1)(h2:bq Γ1 n=some (.exc C fs xx tt)):(St.nF e p).ex T O .free ρ Γ = .ex n ρ1 Γ1:=br h1 (eG (a:=n) rfl (eG (ja h2) rfl))
theorem BY{e:Ex}{p n:Nat}{C:Addr}{fs:List (Nat×D)}{xx tt:Bool}(h1:e.ev O (.hold n) T ρ Γ = .ok (.loc n) ρ1 Γ1)(h2:bq Γ1 n=some (.exc C fs xx tt)):(St.nF e p).ex T O (.hold n) ρ Γ = .ex n ρ1 Γ1:=br h1 (eG (a:=n) rfl (eG (ja h2) (jf (OZ n) rfl)))
theorem Hs{b f:av}{p:Nat}{fl:Fl}(h1:b.ex T O .free ρ Γ = .ok fl ρ1 Γ1)(h2:f.ex T O .free ρ1 Γ1 = .ok .next ρ2 Qp):(St.iJ b f p).ex T O .free ρ Γ = .ok fl ρ2 Qp:=bot h1 (br h2 rfl)
theorem Iz{b f:av}{p n:Nat}{C C':Addr}{fs fs':List (Nat×D)}{xx xx' tt:Bool}(h1:b.ex T O .free ρ Γ = .ex n ρ1 Γ1)(h2:bq Γ1 n=some (.exc C fs xx tt))(h3:f.ex T O (.hold n) ρ1 (Γ1.set n (some (.exc C fs xx true))) = .ok .next ρ2 Qp)(h4:bq Qp n=some (.exc C' fs' xx' true)):(St.iJ b f p).ex T O .free ρ Γ = .ex n ρ2 Qp:=zr h1 (eG (ja h2) (br h3 (eG (ja h4) rfl)))
theorem zW{b h:av}{ce:Ex}{i ph p n:Nat}{C:Addr}{fs:List (Nat×D)}{xx tt:Bool}{fl:Fl}(h1:b.ex T O .free ρ Γ = .ex n ρ1 Γ1)(h2:ce.ev O .free T ρ1 Γ1 = .ok (.d (.val (.ref C))) ρ1 Γ1)(h3:bq Γ1 n=some (.exc C fs xx tt))(h4:h.ex T O (.hold n) (ρ1.set i (some (.loc n))) Γ1 = .ok fl ρ2 Qp):(St.gQ b ce i h ph p).ex T O .free ρ Γ = .ok fl (ρ2.set i none) Qp:=zr h1 (br h2 (eG (ja h3) (eG (a:=C) rfl (jf (OZ C) (congrArg (Res.less i) h4)))))
theorem G7{b h:av}{ce:Ex}{i ph p n k:Nat}{C:Addr}{fs:List (Nat×D)}{xx tt:Bool}(h1:b.ex T O .free ρ Γ = .ex n ρ1 Γ1)(h2:ce.ev O .free T ρ1 Γ1 = .ok (.d (.val (.ref C))) ρ1 Γ1)(h3:bq Γ1 n=some (.exc C fs xx tt))(h4:h.ex T O (.hold n) (ρ1.set i (some (.loc n))) Γ1 = .ex k ρ2 Qp):(St.gQ b ce i h ph p).ex T O .free ρ Γ = .ex k (ρ2.set i none) Qp:=zr h1 (br h2 (eG (ja h3) (eG (a:=C) rfl (jf (OZ C) (congrArg (Res.less i) h4)))))
theorem yW{f:Fl}{r:Res Fl}(h:f.seq ρ Γ r = .ok .next ρ1 Γ1):f = .next/\r = .ok .next ρ1 Γ1:=by
 cases f with
 |next=>exact⟨rfl,h⟩
 |_=>exact nomatch h
theorem lS{s:St}{ss:av}(h:(av.cons s ss).ex T O m ρ Γ = .ok .next ρ2 Qp): ∃ρ1 Γ1,s.ex T O m ρ Γ = .ok .next ρ1 Γ1/\ss.ex T O m ρ1 Γ1 = .ok .next ρ2 Qp:=by
 obtain⟨f,ρ1,Γ1,h1,h⟩:=j7 h;obtain⟨rfl,h⟩:=yW h;exact⟨ρ1,Γ1,h1,h⟩
theorem sT{s1 s2:St}{ss:av}{r:Res Fl}(h:(av.cons s1 (.cons s2 .nil)).ex T O m ρ Γ = .ok .next ρ2 Qp)(h2:ss.ex T O m ρ2 Qp=r):(av.cons s1 (.cons s2 ss)).ex T O m ρ Γ=r:=by
 obtain⟨ρ1,Γ1,h1,h⟩:=lS h;obtain⟨UH,S8,h3,h⟩:=lS h;cases h;exact af h1 (af h3 h2)
theorem wm{s:St}{ss:av}{r:Res Fl}(h:s.ex T O m ρ Γ=r)(hr : ∀ρ Γ,r≠ .ok .next ρ Γ):(av.cons s ss).ex T O m ρ Γ=r:=by
 show(s.ex T O m ρ Γ).bind _=r
 rw[h];cases r with
 |no=>rfl
 |ex n a b=>rfl
 |ok f a b=>cases f with
  |next=>exact absurd rfl (hr a b)
  |_=>rfl
end rules
theorem Mx(n:Nat)(G:ag)(c:Int)(t:Tx)(ec:D)(lv:Int)(he:kP (.d ec)=some (.d ec)):calls TT FF (n+1) true 65 [.loc G.length,.d (.int c),.d (.str t),.d ec,.d (.int lv),.d (.int 0)] (G++[some (.exc 84 [] false false)]) = .ok (.d .none) (G++[eB c t ec lv [] false 0 false false]):=by
 refine aH (f:=Ju) rfl rfl (kI (ρ:=[some (.loc G.length),some (.d (.int c)),some (.d (.str t)),some (.d ec),some (.d (.int lv)),some (.d (.int 0))]) ?_)
 refine af (s:=gq.ak 0) (ss:=gq.from 1) (ρ1:=[some (.loc G.length),some (.d (.int c)),some (.d (.str t)),some (.d ec),some (.d (.int lv)),some (.d (.int 0))]) (Γ1:=G++[some (.exc 84 [] false false)]) (eM (v := .d .none) ?_ rfl) ?_
 ·show RG.res _ (RG.aT (i8 (G++[some (.exc 84 [] false false)]) G.length) _)=_
  rw[ja bN];rfl
 exact af (s:=gq.ak 1) (ss:=gq.from 2) (bo rfl (cw (x := .loc G.length) rfl dD)) (af (s:=gq.ak 2) (ss:=gq.from 3) (bo rfl (cw (x := .loc G.length) rfl dD)) (af (s:=gq.ak 3) (ss:=gq.from 4) (bo rfl (cw (x := .loc G.length) rfl dD)) (af (s:=gq.ak 4) (ss:=gq.from 5) (bo rfl (cw (x := .loc G.length) rfl dD)) (af (s:=gq.ak 5) (ss:=gq.from 6) (bo rfl (cw (x := .loc G.length) rfl dD)) (af (s:=gq.ak 6) (ss:=gq.from 7) (bo rfl (cw (x := .loc G.length) rfl dD)) (af (s:=gq.ak 7) (ss:=gq.from 8) (bo rfl (cw (x := .loc G.length) rfl dD)) (af (s:=gq.ak 8) (ss:=gq.from 9) (bo rfl (cw (x := .loc G.length) rfl dD)) (af (s:=gq.ak 9) (ss := .nil) (bo rfl (cw (x := .loc G.length) rfl dD)) rfl))))))))
theorem B1{Γ:ag}{n:Nat}{l:List D}(h:bq Γ n=some (.list l))(hl:l.length<=16777216):builtin .len Γ [.loc n]=some (.int l.length):=by
 show((bq Γ n).bind _).bind _=_
 rw[h];show cond (ay l.length) _ _=_
 rw[aO hl];rfl
section run
variable{nm:Tx×Tx}{pls:List Plan}{p:Plan}{L:List D}{v:VS}{o:OS}{G:ag}{n:Nat}
noncomputable abbrev aI(pls:List Plan):D := .lst (pls.map cL)
noncomputable abbrev gz(p:Plan)(x T:Bool):Option Mu:=eB (.ofNat p.1) p.2.1 (.tup [.str [69],.str p.2.1]) (jS p.1) p.2.2.2.2 false (.ofNat p.2.2.2.1) x T
noncomputable abbrev eT(p:Plan)(a:Option V):aq:=[some (.loc 0),some (.d (.str cG)),some (.loc 6),some (.d (.int (.ofNat p.1))),some (.d (.str p.2.1)),some (.d (.str p.2.2.1)),some (.d (.int (.ofNat p.2.2.2.1))),some (.d (.str p.2.2.2.2)),a]
theorem IM(hm:nm∈NM)(hp:pls[L.length]?=some p)(hok:bV p)(hL:L.length<=100)(hpl:pls.length<=100)(h0:v.k0=sc)(h1:v.k1=sc){r:Res Fl}:
  (fQ.from 4).ex (TG xV) (calls TT FF (n+4)) .free (eT p none) (HV nm 1 (aI pls) (L++[entry (FV nm v)]) (dV nm p.2.2.1 v) o G)=r->
  fQ.ex (TG xV) (calls TT FF (n+4)) .free [some (.loc 0),some (.d (.str cG)),none,none,none,none,none,none,none] (HV nm 1 (aI pls) L v o G)=r:=by
 intro hr;have hk:An v:=⟨by rw[h0];simp,by rw[h1];simp⟩
 have hit : ∀Γ,cF Γ (.d (aI pls)) (.d (.int (.ofNat L.length)))=some (.d (cL p)):=fun Γ=>bB (by rw[Oc,hp];rfl) (by simp;exact bg ‹_›)
 refine af (s:=fQ.ak 0) (ss:=fQ.from 1) (ρ1:=[some (.loc 0),some (.d (.str cG)),some (.loc 6),none,none,none,none,none,none]) (Γ1:=HV nm 1 (aI pls) L v o G) rfl ?_
 refine af (s:=fQ.ak 1) (ss:=fQ.from 2) (ρ1:=eT p none) (Γ1:=HV nm 1 (aI pls) L v o G) (bo (v := .d (cL p)) (ρ1:=[some (.loc 0),some (.d (.str cG)),some (.loc 6),none,none,none,none,none,none]) (Γ1:=HV nm 1 (aI pls) L v o G) (aM (u := .d (aI pls)) (v := .d (.int (.ofNat L.length))) rfl (cv rfl (B1 (l:=L) rfl (bg ‹_›)) rfl) (hit _)) rfl) ?_
 refine af (s:=fQ.ak 2) (ss:=fQ.from 3) (ρ1:=eT p none) (Γ1:=HV nm 1 (aI pls) (L++[entry (FV nm v)]) v o G) (dw (n:=6) (l:=L) (x:=entry (FV nm v)) (ρ1:=eT p none) (Γ1:=HV nm 1 (aI pls) L v o G) rfl rfl (d5 (vs:=[.d (.str cG),.d (.int 1),.d (fZ (FV nm v))]) (aj rfl (aj rfl (aj (az (vs:=[.loc 0]) (ad:=745) rfl rfl rfl (dj (AL n hm 1 (aI pls) L hk o G)) rfl) rfl))) rfl rfl) rfl (aO (ot ‹_›))) ?_
 exact af (s:=fQ.ak 3) (ss:=fQ.from 4) (eM (v := .d .none) (az (vs:=[.loc 0,.d (au [nm.1,nm.2]),.d (.str p.2.2.1)]) (ad:=752) rfl rfl rfl (dj (Nu n hm hok.d 1 (aI pls) (L++[entry (FV nm v)]) v h0 h1 o G)) rfl) rfl) hr
theorem Fx(hm:nm∈NM)(hp:pls[L.length]?=some p)(hok:bV p)(hL:L.length<=100)(hpl:pls.length<=100)(h0:v.k0=sc)(h1:v.k1=sc)(hc:p.1=0):
  calls TT FF (n+5) true 50 [.loc 0,.d (.str cG)] (HV nm 1 (aI pls) L v o G) = .ok (.d (.str p.2.1)) (HV nm 1 (aI pls) (L++[entry (FV nm v)]) (dV nm p.2.2.1 v) o G):=by
 refine aH (f:=ER) rfl rfl (aR (IM hm hp hok hL hpl h0 h1 (aG (s:=fQ.ak 4) (ss:=fQ.from 5) (aV (ρ1:=eT p none) (aY (bc (u := .d (.int (.ofNat p.1))) (v := .d (.int 0)) (r:=true) rfl rfl (by rw[hc];rfl)) rfl) (aG (bP rfl))))))
theorem DB(hm:nm∈NM)(hp:pls[L.length]?=some p)(hok:bV p)(hL:L.length<=100)(hpl:pls.length<=100)(h0:v.k0=sc)(h1:v.k1=sc)(hc:p.1≠0):
  calls TT FF (n+5) true 50 [.loc 0,.d (.str cG)] (HV nm 1 (aI pls) L v o G) = .ex (HV nm 1 (aI pls) (L++[entry (FV nm v)]) (dV nm p.2.2.1 v) o G).length (HV nm 1 (aI pls) (L++[entry (FV nm v)]) (dV nm p.2.2.1 v) o G++[gz p false false]):=by
 generalize Qg:HV nm 1 (aI pls) (L++[entry (FV nm v)]) (dV nm p.2.2.1 v) o G=Γ1;have hne:gw (.ofNat p.1) 0=false:=by
  show I' p.1 0=false
  cases q:I' p.1 0 with
  |false=>rfl
  |true=>exact absurd (N2 q) hc
 have h65:=Mx (n+3) Γ1 (.ofNat p.1) p.2.1 (.tup [.str [69],.str p.2.1]) (jS p.1) rfl;have hlev : ∀a,(Ex.oV (.val (.cmp .Eq (.var 3 0) (.int 2 0) 0)) (.int 1 0) (.int 0 0) 0).ev (calls TT FF (n+4)) .free (TG xV) (eT p a) Γ1 = .ok (.d (.int (jS p.1))) (eT p a) Γ1:=by
  intro a;have ht : ∀q,I' p.1 2=q->(Te.val (.cmp .Eq (.var 3 0) (.int 2 0) 0)).ev (calls TT FF (n+4)) .free (TG xV) (eT p a) Γ1 = .ok q (eT p a) Γ1:=fun q hq=>aY (bc (u := .d (.int (.ofNat p.1))) (v := .d (.int 2)) rfl rfl (by show some (I' p.1 2)=some q;rw[hq])) rfl
  unfold jS;cases q:I' p.1 2 with
  |true=>exact gM (ht _ q) rfl
  |false=>exact gV (ht _ q) rfl
 refine aH (f:=ER) rfl rfl (lh (ρ:=eT p (some (.loc Γ1.length))) (IM hm hp hok hL hpl h0 h1 ?_))
 rw[Qg];refine af (s:=fQ.ak 4) (ss:=fQ.from 5) (ρ1:=eT p none) (Γ1:=Γ1) (aw (ρ1:=eT p none) (aY (bc (u := .d (.int (.ofNat p.1))) (v := .d (.int 0)) (r:=false) rfl rfl (by show some (gw _ _)=_;exact congrArg some hne)) rfl) rfl) ?_
 refine af (s:=fQ.ak 5) (ss:=fQ.from 6) (ρ1:=eT p (some (.loc Γ1.length))) (Γ1:=Γ1++[eB (.ofNat p.1) p.2.1 (.tup [.str [69],.str p.2.1]) (jS p.1) [] false 0 false false]) (aW (ρ1:=eT p none) (v := .loc Γ1.length) (FP (vs:=[.d (.int (.ofNat p.1)),.d (.str p.2.1),.d (.tup [.str [69],.str p.2.1]),.d (.int (jS p.1)),.d (.int 0)]) (a:=84) (xx:=true) (k:=65) rfl rfl (aj rfl (aj rfl (aj rfl (aj (hlev none) (aj rfl rfl))))) rfl h65)) ?_
 exact af (s:=fQ.ak 6) (ss:=fQ.from 7) (bo rfl (cw (x := .loc Γ1.length) rfl dD)) (af (s:=fQ.ak 7) (ss:=fQ.from 8) (bo rfl (cw (x := .loc Γ1.length) rfl dD)) (fS (s:=fQ.ak 8) (ss := .nil) (Bk rfl bN)))
end run
section rules
variable{T:Tab}{O:aL}{m:Md}{ρ ρ1 ρ2 UH:aq}{Γ Γ1 Qp S8:ag}{u v w x:V}{G:ag}{n:Nat}
theorem qY{e:Ex}{p:Nat}(h:e.ev O m T ρ Γ = .ex n ρ1 Γ1):(St.ret e p).ex T O m ρ Γ = .ex n ρ1 Γ1:=mR h
theorem HE{t e:Ex}{p:Nat}(h:e.ev O m T ρ Γ = .ex n ρ1 Γ1):(St.asg t e p).ex T O m ρ Γ = .ex n ρ1 Γ1:=mR h
theorem xM{e:Ex}{es:bf}(h:e.ev O m T ρ Γ = .ex n ρ1 Γ1):(bf.cons e es).ev O m T ρ Γ = .ex n ρ1 Γ1:=mR h
theorem xO{e:Ex}{es:bf}(h:e.ev O m T ρ Γ = .ok v ρ1 Γ1)(h2:es.ev O m T ρ1 Γ1 = .ex n ρ2 Qp):(bf.cons e es).ev O m T ρ Γ = .ex n ρ2 Qp:=br h (mR h2)
theorem xh{es:bf}{p:Nat}(h:es.ev O m T ρ Γ = .ex n ρ1 Γ1):(Ex.tup es p).ev O m T ρ Γ = .ex n ρ1 Γ1:=mR h
theorem vN{a:Ex}{k:Nat}{es:bf}{pa p n:Nat}{vs:List V}{r:RG}{z:Res V}(h1:a.ev O m T ρ Γ = .ok x ρ Γ)(h2:sx Γ x=some n)(h3:es.ev O m T ρ Γ = .ok vs ρ Γ)(h4:O m.b k (.loc n::vs) Γ=r)(h5:r.res ρ=z):(Ex.mE a k es pa p).ev O m T ρ Γ=z:=br h1 (eG h2 (br h3 ((congrArg (RG.res ρ) h4).trans h5)))
end rules
section run
variable{nm:Tx×Tx}{pls:List Plan}{p:Plan}{L:List D}{v:VS}{o:OS}{G:ag}{n:Nat}
theorem Nv(n:Nat)(plans:D)(L:List D)(v:VS)(o:OS)(G:ag)(nm:Tx×Tx):calls TT FF (n+1) true 68 [.loc 0,.d (.str [114,117,110])] (HV nm 0 plans L v o G) = .ok (.d (.val (.ref 759))) (HV nm 0 plans L v o G):=by kernel_rfl
noncomputable abbrev dJ(pls:List Plan)(nm:Tx×Tx)(L:List D)(p:Plan)(v:VS)(dp:Int)(o:OS)(G:ag):ag:=HV nm dp (aI pls) (L++[entry (FV nm v)]) (dV nm p.2.2.1 v) o G
theorem IH{r:Res Fl}(h:(nY.ak 3).ex (TG Fw) (calls TT FF (n+5)) .free [some (.loc 0),some (.d (.str cG)),some (.d (.val (.ref 759)))] (HV nm 1 (aI pls) L v o G)=r)(hr : ∀ρ Γ,r≠ .ok .next ρ Γ):nY.ex (TG Fw) (calls TT FF (n+5)) .free [some (.loc 0),some (.d (.str cG)),none] (HV nm 0 (aI pls) L v o G)=r:=by
 refine af (s:=nY.ak 0) (ss:=nY.from 1) (ρ1:=[some (.loc 0),some (.d (.str cG)),none]) (Γ1:=HV nm 0 (aI pls) L v o G) (aw rfl rfl) ?_
 refine af (s:=nY.ak 1) (ss:=nY.from 2) (ρ1:=[some (.loc 0),some (.d (.str cG)),some (.d (.val (.ref 759)))]) (Γ1:=HV nm 0 (aI pls) L v o G) (aW (ρ1:=[some (.loc 0),some (.d (.str cG)),none]) (vN (n:=0) rfl rfl rfl (Nv (n+4) (aI pls) L v o G nm) rfl)) ?_
 refine af (s:=nY.ak 2) (ss:=nY.from 3) (ρ1:=[some (.loc 0),some (.d (.str cG)),some (.d (.val (.ref 759)))]) (Γ1:=HV nm 1 (aI pls) L v o G) rfl ?_
 exact wm h hr
theorem Ey(hm:nm∈NM)(hp:pls[L.length]?=some p)(hok:bV p)(hL:L.length<=100)(hpl:pls.length<=100)(h0:v.k0=sc)(h1:v.k1=sc)(hc:p.1=0):
  calls TT FF (n+6) true 69 [.loc 0,.d (.str cG)] (HV nm 0 (aI pls) L v o G) = .ok (.d (.str p.2.1)) (dJ pls nm L p v 0 o G):=by
 refine aH (f:=EJ) rfl rfl (aR (ρ:=[some (.loc 0),some (.d (.str cG)),some (.d (.val (.ref 759)))]) (IH (Hs (Γ1:=dJ pls nm L p v 1 o G) (aG (bP (az (vs:=[.loc 0,.d (.str cG)]) (ad:=759) rfl rfl rfl (dj (Fx (n:=n) hm hp hok hL hpl h0 h1 hc)) rfl))) rfl) (fun _ _ h=>by cases h)))
theorem DI(hm:nm∈NM)(hp:pls[L.length]?=some p)(hok:bV p)(hL:L.length<=100)(hpl:pls.length<=100)(h0:v.k0=sc)(h1:v.k1=sc)(hc:p.1≠0):
  calls TT FF (n+6) true 69 [.loc 0,.d (.str cG)] (HV nm 0 (aI pls) L v o G) = .ex (dJ pls nm L p v 0 o G).length (dJ pls nm L p v 0 o G++[gz p false true]):=by
 refine aH (f:=EJ) rfl rfl (lh (ρ:=[some (.loc 0),some (.d (.str cG)),some (.d (.val (.ref 759)))]) (IH (Iz (C':=84) (fs':=[(0,.int (.ofNat p.1)),(1,.str p.2.1),(2,.tup [.str [69],.str p.2.1]),(3,.int (jS p.1)),(4,.int 0),(5,.str p.2.2.2.2),(6,.bool false),(7,.int (.ofNat p.2.2.2.1)),(8,.lst [])]) (xx':=false) (n:=(dJ pls nm L p v 1 o G).length) (Γ1:=dJ pls nm L p v 1 o G++[gz p false false]) (fS (qY (az (vs:=[.loc 0,.d (.str cG)]) (ad:=759) rfl rfl rfl (dj (DB (n:=n) hm hp hok hL hpl h0 h1 hc)) rfl))) bN ?_ ?_) (fun _ _ h=>by injection h)))
 ·rw[gi];rfl
 ·exact bN (G:=dJ pls nm L p v 0 o G)
theorem JL(n:Nat)(G:ag)(t:Tx)(ec:D)(lv:Int)(info:Tx)(noted:Bool)(line:Int)(xx T:Bool)(x:Tx)(ht:t.length<=100)(hi:info.length<=100)(hx:x.length<=1000):calls TT FF (n+1) false 4 [.loc G.length,.d (.str x)] (G++[eB 1 t ec lv info noted line xx T]) = .ok (.d .none) (G++[eB 1 t ec lv (((cond (ao info []) t info)++[10,32,32,32,32])++x) true line xx T]):=by
 have h5 : ∀info' noted',info'.length<=100->(b4.ak 2).ex (TG g4) (calls TT FF n) .eS [some (.loc G.length),some (.d (.str x))] (G++[eB 1 t ec lv info' noted' line xx T]) = .ok .next [some (.loc G.length),some (.d (.str x))] (G++[eB 1 t ec lv ((info'++[10,32,32,32,32])++x) noted' line xx T]):=fun info' noted' hl=>
  bo (v := .d (.str ((info'++[10,32,32,32,32])++x))) (aC (aC (cy rfl (dC rfl rfl)) rfl (add_str (by simp;exact bg ‹_›))) rfl (add_str (by simp;exact bX hl hx))) (cw (x := .loc G.length) rfl dD)
 have h6 : ∀info',(b4.ak 3).ex (TG g4) (calls TT FF n) .eS [some (.loc G.length),some (.d (.str x))] (G++[eB 1 t ec lv info' noted line xx T]) = .ok .next [some (.loc G.length),some (.d (.str x))] (G++[eB 1 t ec lv info' true line xx T]):=fun info'=>
  bo (v := .d (.bool true)) rfl (cw (x := .loc G.length) rfl dD)
 have h0:(b4.ak 0).ex (TG g4) (calls TT FF n) .eS [some (.loc G.length),some (.d (.str x))] (G++[eB 1 t ec lv info noted line xx T]) = .ok .next [some (.loc G.length),some (.d (.str x))] (G++[eB 1 t ec lv info noted line xx T]):=
  aw (aY (bc (r:=false) (cy rfl (dC rfl rfl)) rfl rfl) rfl) rfl
 have ht1 : ∀q,ao info []=q->(b4.ak 1).wt.ev (calls TT FF n) .eS (TG g4) [some (.loc G.length),some (.d (.str x))] (G++[eB 1 t ec lv info noted line xx T]) = .ok q [some (.loc G.length),some (.d (.str x))] (G++[eB 1 t ec lv info noted line xx T]):=fun q hq=>
  aY (bc (r:=q) (cy rfl (dC rfl rfl)) rfl (by show some (ao info [])=_;rw[hq])) rfl
 refine aH (f:=f4) rfl rfl (kI (ρ:=[some (.loc G.length),some (.d (.str x))]) (af (s:=b4.ak 0) (ss:=b4.from 1) h0 ?_))
 cases q:ao info [] with
 |true=>exact af (s:=b4.ak 1) (ss:=b4.from 2) (aV (ht1 _ q) (af (bo (v := .d (.str t)) (cy rfl (dC rfl rfl)) (cw (x := .loc G.length) rfl dD)) rfl)) (af (s:=b4.ak 2) (ss:=b4.from 3) (h5 _ _ ht) (af (s:=b4.ak 3) (ss := .nil) (h6 _) rfl))
 |false=>exact af (s:=b4.ak 1) (ss:=b4.from 2) (aw (ht1 _ q) rfl) (af (s:=b4.ak 2) (ss:=b4.from 3) (h5 _ _ hi) (af (s:=b4.ak 3) (ss := .nil) (h6 _) rfl))
theorem F1(n:Nat)(G:ag)(c:Nat)(hc:c≠1)(t:Tx)(ec:D)(lv:Int)(info:Tx)(noted:Bool)(line:Int)(xx T:Bool)(x:Tx):calls TT FF (n+1) false 4 [.loc G.length,.d (.str x)] (G++[eB (.ofNat c) t ec lv info noted line xx T]) = .ok (.d .none) (G++[eB (.ofNat c) t ec lv info noted line xx T]):=by
 refine aH (f:=f4) rfl rfl (aR (ρ:=[some (.loc G.length),some (.d (.str x))]) (aG (s:=b4.ak 0) (ss:=b4.from 1) (aV (aY (bc (r:=true) (cy rfl (dC rfl rfl)) rfl ?_) rfl) rfl)))
 show(some (I' c 1)).map _=_
 have:I' c 1=false:=by
  cases q:I' c 1 with
  |false=>rfl
  |true=>exact absurd (N2 q) hc
 rw[this];rfl
end run
theorem vX(nm:Tx×Tx)(dp:Int)(plans:D)(L:List D)(v:VS)(o:OS)(G:ag)(x:Option Mu):HV nm dp plans L v o G++[x]=HV nm dp plans L v o (G++[x]):=by
 unfold HV HG A7;cases ao nm.1 nm.2<;>rfl
section run
variable{nm q:Tx×Tx}{pls:List Plan}{p:Plan}{L:List D}{v:VS}{o:OS}{G Vi:ag}{n:Nat}
noncomputable abbrev Ke(p:Plan):Option Mu:=eB (.ofNat p.1) p.2.1 (.tup [.str [69],.str p.2.1]) (jS p.1) (iO p) (I' p.1 1) 0 false true
theorem Hc(hw:kj.ex (TG la) (calls TT FF (n+7)) .free (du nm q) Vi = .ok .next (du nm q) (HV nm 0 (aI pls) L v o G))(hm:nm∈NM)(hp:pls[L.length]?=some p)(hok:bV p)(hL:L.length<=100)(hpl:pls.length<=100)(h0:v.k0=sc)(h1:v.k1=sc)(hc:p.1=0):
  calls TT FF (n+8) true 33 [.loc 0,.d (au [nm.1,nm.2]),.d (.str q.1),.d (.str q.2),.d (.str cG),.d (.str jB)] Vi = .ok (.d (.tup [.int 0,.str p.2.1])) (dJ pls nm L p v 0 o G):=by
 refine aH (f:=Al) rfl rfl (aR (ρ:=du nm q) (sT (s1:=eu.ak 0) (s2:=eu.ak 1) (ss:=eu.from 2) hw (aG (s:=eu.ak 2) (ss := .nil) (oz (aG (bP (d5 (vs:=[.d (.int 0),.d (.str p.2.1)]) (aj rfl (aj ?_ rfl)) rfl rfl)))))))
 exact vN (n:=0) (vs:=[.d (.str cG)]) rfl rfl rfl (Ey (n:=n+1) hm hp hok hL hpl h0 h1 hc) rfl
theorem EC(hm:nm∈NM)(hp:pls[L.length]?=some p)(hok:bV p)(hL:L.length<=100)(hpl:pls.length<=100)(h0:v.k0=sc)(h1:v.k1=sc)(hc:p.1≠0):
  (eu.ak 2).wb.ex (TG la) (calls TT FF (n+7)) .free (du nm q) (HV nm 0 (aI pls) L v o G) = .ex (dJ pls nm L p v 0 o G).length (du nm q) (dJ pls nm L p v 0 o G++[gz p false true]):=
 fS (qY (xh (xO rfl (xM (vN (n:=0) (vs:=[.d (.str cG)]) rfl rfl rfl (DI (n:=n+1) hm hp hok hL hpl h0 h1 hc) rfl)))))
noncomputable abbrev ij(nm q:Tx×Tx)(N:Nat):aq:=[some (.loc 0),some (.d (au [nm.1,nm.2])),some (.d (.str q.1)),some (.d (.str q.2)),some (.d (.str cG)),some (.d (.str jB)),some (.loc N)]
theorem F6{G:ag}{m:Md}{b:Bool}(h:iA (.int (.ofNat p.1)) [.int 3,.int 4]=some b):((eu.ak 2).we.ak 0).wt.ev (calls TT FF (n+7)) m (TG la) (ij nm q G.length) (G++[gz p false true]) = .ok b (ij nm q G.length) (G++[gz p false true]):=
 aY (bc (v := .d (.tup [.int 3,.int 4])) (cy rfl (dC rfl rfl)) rfl h) rfl
theorem xt(hw:kj.ex (TG la) (calls TT FF (n+7)) .free (du nm q) Vi = .ok .next (du nm q) (HV nm 0 (aI pls) L v o G))(hm:nm∈NM)(hp:pls[L.length]?=some p)(hok:bV p)(hL:L.length<=100)(hpl:pls.length<=100)(h0:v.k0=sc)(h1:v.k1=sc)(hc:p.1=3\/p.1=4):
  calls TT FF (n+8) true 33 [.loc 0,.d (au [nm.1,nm.2]),.d (.str q.1),.d (.str q.2),.d (.str cG),.d (.str jB)] Vi = .ok (.d (.tup [.int (.ofNat p.1),.str []])) (dJ pls nm L p v 0 o (G++[gz p false true])):=by
 have hne:p.1≠0:=by rintro h;rw[h] at hc;exact absurd hc (by decide)
 have hh:iA (.int (.ofNat p.1)) [.int 3,.int 4]=some true:=by rcases hc with h | h<;>rw[h]<;>rfl
 rw[show dJ pls nm L p v 0 o (G++[gz p false true])=dJ pls nm L p v 0 o G++[gz p false true] from(vX ..).symm]
 refine aH (f:=Al) rfl rfl (aR (ρ:=du nm q) (sT (s1:=eu.ak 0) (s2:=eu.ak 1) (ss:=eu.from 2) hw (aG (s:=eu.ak 2) (ss := .nil) (zW (ρ2:=ij nm q (dJ pls nm L p v 0 o G).length) (EC hm hp hok hL hpl h0 h1 hne) rfl bN ?_))))
 exact aG (s:=(eu.ak 2).we.ak 0) (ss:=(eu.ak 2).we.from 1) (aV (F6 hh) (aG (bP (d5 (vs:=[.d (.int (.ofNat p.1)),.d (.str [])]) (aj (cy rfl (dC rfl rfl)) (aj rfl rfl)) rfl rfl))))
theorem zo : ∀l∈([0,1,2]:List Nat),(m7 l).length<=3:=by decide
noncomputable def il(p:Plan):Tx:=((([40,34,100,105,99,116,32]++jB)++[32,108,105,110,101,32])++m7 p.2.2.2.1)++[41]
theorem Ct(p:Plan)(hc:p.1=1):((cond (ao p.2.2.2.2 []) p.2.1 p.2.2.2.2)++[10,32,32,32,32])++il p=iO p:=by
 simp only[iO,hc,il,jB];simp
theorem xZ : ∀t∈cj.map (·.1),t.length<=6:=by decide
theorem xi : ∀t∈[[],d7],t.length<=6:=by decide
theorem HC(hw:kj.ex (TG la) (calls TT FF (n+7)) .free (du nm q) Vi = .ok .next (du nm q) (HV nm 0 (aI pls) L v o G))(hm:nm∈NM)(hp:pls[L.length]?=some p)(hok:bV p)(hL:L.length<=100)(hpl:pls.length<=100)(h0:v.k0=sc)(h1:v.k1=sc)(hc:p.1=1\/p.1=2\/p.1=9):
  calls TT FF (n+8) true 33 [.loc 0,.d (au [nm.1,nm.2]),.d (.str q.1),.d (.str q.2),.d (.str cG),.d (.str jB)] Vi = .ex (dJ pls nm L p v 0 o G).length (dJ pls nm L p v 0 o G++[Ke p]):=by
 have hne:p.1≠0:=by rintro h;rw[h] at hc;exact absurd hc (by decide)
 have hh:iA (.int (.ofNat p.1)) [.int 3,.int 4]=some false:=by rcases hc with h | h | h<;>rw[h]<;>rfl
 have hdl:=zo _ hok.l;have htl:=xZ _ hok.t;have hil:=xi _ hok.i;have hll:p.2.2.2.1<=2:=(by decide : ∀l∈([0,1,2]:List Nat),l<=2) _ hok.l
 refine aH (f:=Al) rfl rfl (lh (ρ:=du nm q) (sT (s1:=eu.ak 0) (s2:=eu.ak 1) (ss:=eu.from 2) hw (fS (s:=eu.ak 2) (ss := .nil) (G7 (ρ2:=ij nm q (dJ pls nm L p v 0 o G).length) (EC hm hp hok hL hpl h0 h1 hne) rfl bN ?_))))
 generalize Qg:dJ pls nm L p v 0 o G=Γ1;refine af (s:=(eu.ak 2).we.ak 0) (ss:=(eu.ak 2).we.from 1) (ρ1:=ij nm q Γ1.length) (Γ1:=Γ1++[gz p false true]) (aw (F6 hh) rfl) ?_
 have hx:(bf.cons (.var 6 0) (.cons (.bin .Add (.bin .Add (.bin .Add (.bin .Add (.str [40,34,100,105,99,116,32] 0) (.var 5 0) 0) (.str [32,108,105,110,101,32] 0) 0) (.gH .str (.glob 1 0) (.cons (.attr (.var 6 0) 7 0) .nil) 0) 0) (.str [41] 0) 0) .nil)).ev (calls TT FF (n+7)) (.hold Γ1.length) (TG la) (ij nm q Γ1.length) (Γ1++[gz p false true]) = .ok [.loc Γ1.length,.d (.str (il p))] (ij nm q Γ1.length) (Γ1++[gz p false true]):=by
  refine aj rfl (aj (aC (aC (aC (aC rfl rfl (add_str (by decide))) rfl (add_str (by decide))) (cv (aj (cy rfl (dC rfl rfl)) rfl) ?_ rfl) (add_str ?_)) rfl (add_str ?_)) rfl)
  ·show cond (ay p.2.2.2.1) _ _=_
   rw[aO (bg ‹_›)];rfl
  ·simp[jB];exact ba hdl
  ·simp[jB];exact bg ‹_›
 have h4:calls TT FF (n+7) false 4 [.loc Γ1.length,.d (.str (il p))] (Γ1++[gz p false true]) = .ok (.d .none) (Γ1++[eB (.ofNat p.1) p.2.1 (.tup [.str [69],.str p.2.1]) (jS p.1) (iO p) (I' p.1 1) (.ofNat p.2.2.2.1) false true]):=by
  rcases hc with h | h | h
  ·have:=JL (n+6) Γ1 p.2.1 (.tup [.str [69],.str p.2.1]) (jS p.1) p.2.2.2.2 false (.ofNat p.2.2.2.1) false true (il p) (bg ‹_›) (bg ‹_›) (by simp[il,jB];exact bg ‹_›)
   rw[Ct p h] at this;unfold gz;rw[h] at this ⊢;exact this
  ·have e:iO p=p.2.2.2.2:=by unfold iO;rw[h];rfl
   have:=F1 (n+6) Γ1 p.1 (by rw[‹p.1=_›];decide) p.2.1 (.tup [.str [69],.str p.2.1]) (jS p.1) p.2.2.2.2 false (.ofNat p.2.2.2.1) false true (il p)
   rw[e,show I' p.1 1=false by rw[h];rfl]
   exact this
  ·have e:iO p=p.2.2.2.2:=by unfold iO;rw[h];rfl
   have:=F1 (n+6) Γ1 p.1 (by rw[‹p.1=_›];decide) p.2.1 (.tup [.str [69],.str p.2.1]) (jS p.1) p.2.2.2.2 false (.ofNat p.2.2.2.1) false true (il p)
   rw[e,show I' p.1 1=false by rw[h];rfl]
   exact this
 refine af (s:=(eu.ak 2).we.ak 1) (ss:=(eu.ak 2).we.from 2) (ρ1:=ij nm q Γ1.length) (eM (v := .d .none) (az (ad:=174) rfl hx rfl (show d4 _ (.hold Γ1.length) 4 false _ _=_ from h4) rfl) rfl) ?_
 exact af (s:=(eu.ak 2).we.ak 2) (ss:=(eu.ak 2).we.from 3) (bo (v := .d (.int 0)) rfl (cw (x := .loc Γ1.length) rfl dD)) (fS (s:=(eu.ak 2).we.ak 3) (ss := .nil) (BY rfl bN))
end run
section rules
variable{T:Tab}{O:aL}{m:Md}{ρ ρ1 ρ2 UH:aq}{Γ Γ1 Qp S8:ag}{u v w x:V}{G:ag}{n:Nat}
theorem GR{e:Ex}(h:e.ev O m T ρ Γ = .ex n ρ1 Γ1):(Te.val e).ev O m T ρ Γ = .ex n ρ1 Γ1:=mR h
theorem Iu{t:Te}{ts:bY}(h:t.ev O m T ρ Γ = .ex n ρ1 Γ1):(bY.cons t ts).bL O m T ρ Γ = .ex n ρ1 Γ1:=mR h
theorem G4{t:Te}{a b:av}{p:Nat}(h:t.ev O m T ρ Γ = .ex n ρ1 Γ1):(St.ifs t a b p).ex T O m ρ Γ = .ex n ρ1 Γ1:=mR h
end rules
theorem JS(n:Nat):(cj.map fun q=>RG.val (calls TT FF (n+7) true 11 [.d (.str q.1)] []))=cj.map fun q=>match q.2 with | some b=>some (.d (.bool b)) | none=>none:=by kernel_rfl
noncomputable abbrev E2(x:Tx):Option Mu:=eB 1 ([101,120,112,101,99,116,101,100,32,98,111,111,108,101,97,110,32,118,97,108,117,101,32,98,117,116,32,103,111,116,32,34]++(x++[34])) (.tup [.str [84,67,76],.str [86,65,76,85,69],.str [66,79,79,76,69,65,78]]) 0 [] false 0 false false
theorem JV(n:Nat):(nU.map fun x=>calls TT FF (n+7) true 11 [.d (.str x)] [])=nU.map fun x=>RG.ex 0 [E2 x]:=by kernel_rfl
theorem Ik(n:Nat){q:Tx×Option Bool}(hq:q∈cj){b:Bool}(h:q.2=some b): ∃Γ,calls TT FF (n+7) true 11 [.d (.str q.1)] [] = .ok (.d (.bool b)) Γ:=by
 have:=aS (JS n) q hq;rw[h] at this;exact RG.val_eq this
theorem G6(n:Nat){q:Tx×Option Bool}(hq:q∈cj)(h:q.2=none):calls TT FF (n+7) true 11 [.d (.str q.1)] [] = .ex 0 [E2 q.1]:=aS (JV n) q.1 (rC q hq h)
noncomputable def dv(zx:Tx)(zw:Int):VS:=⟨nn,[],0,nn,[],0,zx,zw⟩
def HS(nm:Tx×Tx)(plans:D)(L:List D)(v:VS)(o:OS)(Γ:ag):Prop:=An v/\((∃G,Γ=HV nm 0 plans L v o G)\/(Γ=HG 0 plans (au [nm.1,nm.2]) [(tZ,.loc 7)] L v.zx v.zw o []/\v=dv v.zx v.zw))
theorem HS.two{nm q:Tx×Tx}{plans:D}{L:List D}{v:VS}{o:OS}{Γ:ag}(h:HS nm plans L v o Γ)(hm:nm∈NM)(n:Nat): ∃G,kj.ex (TG la) (calls TT FF (n+7)) .free (du nm q) Γ = .ok .next (du nm q) (HV nm 0 plans L (ew nm q v) o G):=by
 rcases h.2 with⟨G,rfl⟩ | ⟨rfl,hv⟩
 ·exact⟨G,aS (w2 (n+2) plans L v o G q) nm hm⟩
 ·refine⟨[],(aS (w1 (n+2) plans L v.zx v.zw o q) nm hm).trans ?_⟩
  have e:ew nm q ⟨sc,[],0,sc,[],0,v.zx,v.zw⟩=ew nm q v:=by rw[hv];rfl
  rw[e]
noncomputable abbrev dk(raw word text:Tx):List Tx:=[[100,105,99,116],[102,105,108,116,101,114],raw,word,text,cG]
noncomputable abbrev hY(raw word text:Tx)(nm:Tx×Tx)(ps:List (Tx×Tx))(a5 a6 a7:Option V):aq:=[some (.loc 0),some (.d (au (dk raw word text))),some (.d (au [nm.1,nm.2])),some (.d (.bH (aD ps))),some (.loc 11),a5,a6,a7]
noncomputable abbrev cO:av:=(fi.ak 4).wb
noncomputable def pF(n:Nat):V->aq->ag->Res Fl:=fun v ρ Γ=>((fi.ak 4).ft.bC (calls TT FF (n+8)) .free (TG pZ) v ρ Γ).bind fun _ ρ Γ=>cO.ex (TG pZ) (calls TT FF (n+8)) .free ρ Γ
noncomputable abbrev oK(bk lg kp:Option Mu)(K:List (Tx×Tx)):OS:=⟨bk,lg,kp,some (.sd (aD K))⟩
inductive tells(n:Nat)(Γ:ag)(due:D):Prop
 |mk (Vi:ag) (c:Int) (t:Tx) (ec:D) (lv:Int) (info:Tx) (noted:Bool) (line:Int) (xx T:Bool) (e:Γ=Vi++[eB c t ec lv info noted line xx T]) (hn:n=Vi.length) (hv:kP (.d ec)=some (.d ec)) (hd:due = .tup [.int c,.str t,ec,.int lv,.int 0,.str info,.int line])
inductive iK(nm:Tx×Tx)(plans:D)(bk lg kp:Option Mu)(Γ:ag)(F:cH)(L:List D):Prop
 |mk (v:VS) (o:OS) (hS:HS nm plans L v o Γ) (hF:FV nm v=F) (hb:o.bk=bk) (hl:o.lg=lg) (hk:o.kp=kp)
inductive z7(raw word text:Tx)(nm:Tx×Tx)(ps:List (Tx×Tx))(plans:D)(bk lg kp:Option Mu)(R:Res Fl)(sp:D×cH×List D):Prop
 |done (K:List (Tx×Tx)) (a5 a6 a7:Option V) (v:VS) (Γ:ag) (e:R = .ok .next (hY raw word text nm ps a5 a6 a7) Γ) (hS:HS nm plans sp.2.2 v (oK bk lg kp K) Γ) (hF:FV nm v=sp.2.1) (h:sp.1=kS K) (hK:iY K ps.length) (hn:(K.map Oq).Nodup)
 |ret (K:List (Tx×Tx)) (ρ:aq) (Γ:ag) (e:R = .ok (.ret (.d (.str (gg K)))) ρ Γ) (h:sp.1=kS K) (hF:iK nm plans bk lg kp Γ sp.2.1 sp.2.2)
 |exc (n:Nat) (ρ:aq) (Γ:ag) (e:R = .ex n ρ Γ) (t:tells n Γ sp.1) (hF:iK nm plans bk lg kp Γ sp.2.1 sp.2.2)
inductive w7(raw word text:Tx)(nm:Tx×Tx)(ps:List (Tx×Tx))(plans:D)(bk lg kp:Option Mu)(q:Tx×Tx)(p:Plan)(v:VS)(L:List D)(K:List (Tx×Tx))(R:Res Fl):Prop
 |next (K':List (Tx×Tx)) (b6 b7:Option V) (Γ:ag) (e:R = .ok .next (hY raw word text nm ps (some (.d (.str q.1))) b6 b7) Γ) (hS:HS nm plans (L++[entry (FV nm (ew nm q v))]) (dV nm p.2.2.1 (ew nm q v)) (oK bk lg kp K') Γ) (h:K'=K\/K'=K++[q]) (s : ∀k,dY nm q p (FV nm v) L K k=k K')
 |ret (ρ:aq) (Γ:ag) (e:R = .ok (.ret (.d (.str (gg K)))) ρ Γ) (hF:iK nm plans bk lg kp Γ (FV nm (dV nm p.2.2.1 (ew nm q v))) (L++[entry (FV nm (ew nm q v))])) (s : ∀k,dY nm q p (FV nm v) L K k=(kS K,cW nm p.2.2.1 (bK nm q (FV nm v)),L++[entry (bK nm q (FV nm v))]))
 |exc (n:Nat) (ρ:aq) (Γ:ag) (d:D) (e:R = .ex n ρ Γ) (t:tells n Γ d) (hF:iK nm plans bk lg kp Γ (FV nm (dV nm p.2.2.1 (ew nm q v))) (L++[entry (FV nm (ew nm q v))])) (s : ∀k,dY nm q p (FV nm v) L K k=(d,cW nm p.2.2.1 (bK nm q (FV nm v)),L++[entry (bK nm q (FV nm v))]))
theorem H5{nm:Tx×Tx}{plans:D}{L:List D}{v:VS}{bk lg kp:Option Mu}{K:List (Tx×Tx)}{G:ag}{q:Tx×Tx}(hl:K.length<=1000)(hn:q.1∉K.map Oq):ku (HV nm 0 plans L v (oK bk lg kp K) G) (.d (.str q.1)) (.d (.str q.2)) (.loc 11)=some (HV nm 0 plans L v (oK bk lg kp (K++[q])) G):=by
 rw[l9 (n:=11) rfl (bg ‹_›),jn hn];rfl
section pass
variable{n:Nat}{raw word text:Tx}{nm q:Tx×Tx}{ps:List (Tx×Tx)}{pls:List Plan}{bk lg kp:Option Mu}{p:Plan}{L:List D}{K:List (Tx×Tx)}{v:VS}{G Γ:ag}{a6 a7:Option V}
theorem HS.dJ{K':List (Tx×Tx)}{G':ag}:HS nm (aI pls) (L++[entry (FV nm (ew nm q v))]) (dV nm p.2.2.1 (ew nm q v)) (oK bk lg kp K') (dJ pls nm L p (ew nm q v) 0 (oK bk lg kp K') G'):=⟨nJ _ _ _ _ _ _,.inl ⟨G',rfl⟩⟩
theorem iK.dJ{x:Option Mu}{o:Option Mu}:iK nm (aI pls) bk lg kp (dJ pls nm L p (ew nm q v) 0 ⟨bk,lg,kp,o⟩ G++[x]) (FV nm (dV nm p.2.2.1 (ew nm q v))) (L++[entry (FV nm (ew nm q v))]):=by
 rw[vX];exact⟨_,⟨bk,lg,kp,o⟩,⟨nJ _ _ _ _ _ _,.inl ⟨_,rfl⟩⟩,rfl,rfl,rfl,rfl⟩
theorem n9(hit : ∀Γ,cF Γ (.d (.bH (aD ps))) (.d (.str q.1))=some (.d (.str q.2))){r:RG}(h:calls TT FF (n+8) true 33 [.loc 0,.d (au [nm.1,nm.2]),.d (.str q.1),.d (.str q.2),.d (.str cG),.d (.str jB)] Γ=r){z:Res V}(hz:r.res (hY raw word text nm ps (some (.d (.str q.1))) a6 a7)=z):(Ex.call 33 (.glob 4 0) false (bf.cons (.var 0 0) (.cons (.var 2 0) (.cons (.var 5 0) (.cons (.sub (.var 3 0) (.var 5 0) 0) (.cons (.sub (.var 1 0) (.int 5 0) 0) (.cons (.str jB 0) .nil)))))) 0).ev (calls TT FF (n+8)) .free (TG pZ) (hY raw word text nm ps (some (.d (.str q.1))) a6 a7) Γ=z:=
 az (ad:=400) (vs:=[.loc 0,.d (au [nm.1,nm.2]),.d (.str q.1),.d (.str q.2),.d (.str cG),.d (.str jB)]) rfl (aj rfl (aj rfl (aj rfl (aj (aM (u := .d (.bH (aD ps))) (v := .d (.str q.1)) rfl rfl (hit _)) (aj rfl (aj rfl rfl)))))) rfl (dj h) hz
noncomputable abbrev vy(n:Nat)(raw word text:Tx)(nm:Tx×Tx)(ps:List (Tx×Tx))(q:Tx×Tx)(a6 a7:Option V)(Γ:ag):Res Fl:=cO.ex (TG pZ) (calls TT FF (n+8)) .free (hY raw word text nm ps (some (.d (.str q.1))) a6 a7) Γ
theorem GH (hw:kj.ex (TG la) (calls TT FF (n+7)) .free (du nm q) Γ = .ok .next (du nm q) (HV nm 0 (aI pls) L (ew nm q v) (oK bk lg kp K) G)) (hm:nm∈NM) (hp:pls[L.length]?=some p) (hok:bV p) (hL:L.length<=100) (hpl:pls.length<=100)
  (hit : ∀Γ,cF Γ (.d (.bH (aD ps))) (.d (.str q.1))=some (.d (.str q.2))) (hkn:q.1∉K.map Oq) (hnd:(K.map Oq).Nodup) (hat : ∀p∈K,p.1∈atT/\p.2∈atT) (lP:K.length<=4) :
  w7 raw word text nm ps (aI pls) bk lg kp q p v L K (vy n raw word text nm ps q a6 a7 Γ):=by
 obtain⟨c,t,d,l,i⟩:=p;have hc:=hok.c;simp only[codes,N7,Ou,or_false] at hc;have bad:c=1\/c=2\/c=9->(∀k,dY nm q (c,t,d,l,i) (FV nm v) L K k=(gL (c,t,d,l,i),cW nm d (bK nm q (FV nm v)),L++[entry (bK nm q (FV nm v))]))->w7 raw word text nm ps (aI pls) bk lg kp q (c,t,d,l,i) v L K (vy n raw word text nm ps q a6 a7 Γ):=fun hc s=>
  .exc _ _ _ _ (fS (s:=cO.ak 0) (ss:=cO.from 1) (HE (n9 hit (HC hw hm hp hok hL hpl rfl rfl hc) rfl))) ⟨_,_,_,_,_,_,_,_,_,_,rfl,rfl,rfl,rfl⟩ iK.dJ s
 rcases hc with rfl | rfl | rfl | rfl | rfl | rfl
 ·obtain⟨tq,htq,rfl⟩:=Q2.mp hok.t
  have hso:=A1 tq htq;have hs0:(cO.ak 0).ex (TG pZ) (calls TT FF (n+8)) .free (hY raw word text nm ps (some (.d (.str q.1))) a6 a7) Γ = .ok .next (hY raw word text nm ps (some (.d (.str q.1))) (some (.d (.int 0))) (some (.d (.str tq.1)))) (dJ pls nm L (0,tq.1,d,l,i) (ew nm q v) 0 (oK bk lg kp K) G):=
   bo (n9 hit (Hc hw hm hp hok hL hpl rfl rfl rfl) rfl) rfl
  cases hb:tq.2 with
  |none=>
   rw[hb] at hso;have h11:=G6 (n+1) htq hb;exact .exc _ _ _ _ (af (s:=cO.ak 0) (ss:=cO.from 1) hs0 (af (s:=cO.ak 1) (ss:=cO.from 2) (aw rfl rfl) (fS (s:=cO.ak 2) (ss := .nil) (G4 (jP (nH rfl (Iu (GR (az (vs:=[.d (.str tq.1)]) (ad:=237) rfl rfl rfl (Dw rfl h11 rfl) rfl))))))))) ⟨_,_,_,_,_,_,_,_,_,_,rfl,rfl,rfl,rfl⟩ iK.dJ fun k=>j4 hso
  |some b=>
   rw[hb] at hso;obtain⟨XY,h11⟩:=Ik (n+1) htq hb;cases b with
   |true=>exact .next (K++[q]) _ _ (dJ pls nm L (0,tq.1,d,l,i) (ew nm q v) 0 (oK bk lg kp (K++[q])) G) (af (s:=cO.ak 0) (ss:=cO.from 1) hs0 (af (s:=cO.ak 1) (ss:=cO.from 2) (aw rfl rfl) (af (s:=cO.ak 2) (ss := .nil) (aV (jP (nH rfl (nH (aY (az (vs:=[.d (.str tq.1)]) (ad:=237) rfl rfl rfl (aN rfl h11) rfl) rfl) rfl))) (af (bo (v := .d (.str q.2)) (aM (u := .d (.bH (aD ps))) (v := .d (.str q.1)) rfl rfl (hit _)) (eP rfl rfl (H5 (N0 lP (by decide)) hkn))) rfl)) rfl))) HS.dJ (.inr rfl) fun k=>j4 hso
   |false=>exact .next K _ _ _ (af (s:=cO.ak 0) (ss:=cO.from 1) hs0 (af (s:=cO.ak 1) (ss:=cO.from 2) (aw rfl rfl) (af (s:=cO.ak 2) (ss := .nil) (aw (jP (nH rfl (sV (aY (az (vs:=[.d (.str tq.1)]) (ad:=237) rfl rfl rfl (aN rfl h11) rfl) rfl)))) rfl) rfl))) HS.dJ (.inl rfl) fun k=>j4 hso
 ·exact .next K _ _ _ (af (s:=cO.ak 0) (ss:=cO.from 1) (bo (n9 hit (xt hw hm hp hok hL hpl rfl rfl (.inr rfl)) rfl) rfl) (af (s:=cO.ak 1) (ss:=cO.from 2) (aw rfl rfl) (af (s:=cO.ak 2) (ss := .nil) (aw (jP (sV rfl)) rfl) rfl))) HS.dJ (.inl rfl) fun k=>rfl
 ·exact bad (.inl rfl) fun k=>rfl
 ·obtain⟨Xy,h27⟩:=Gx (n+3) hnd hat (bg ‹_›)
  exact .ret _ _ (af (s:=cO.ak 0) (ss:=cO.from 1) (bo (n9 hit (xt hw hm hp hok hL hpl rfl rfl (.inl rfl)) rfl) rfl) (aG (s:=cO.ak 1) (ss:=cO.from 2) (aV rfl (aG (bP (fe (ad:=350) rfl (aj (fF rfl rfl) rfl) rfl (aN rfl h27) rfl)))))) ⟨_,⟨bk,lg,kp,none⟩,⟨nJ _ _ _ _ _ _,.inl ⟨_,rfl⟩⟩,rfl,rfl,rfl,rfl⟩ fun k=>rfl
 ·exact bad (.inr (.inl rfl)) fun k=>rfl
 ·exact bad (.inr (.inr rfl)) fun k=>rfl
end pass
theorem wc{K qs:List (Tx×Tx)}{q:Tx×Tx}(h:((K++q::qs).map Oq).Nodup):(K.map Oq).Nodup/\q.1∉K.map Oq/\((K++qs).map Oq).Nodup:=by
 rw[OM,Oa,Qf] at h;rw[OM,Qf];exact⟨h.1,fun z=>h.2.2 _ z _ (.head _) rfl,h.1,(Py.mp h.2.1).2,fun x hx y hy=>h.2.2 x hx y (.tail _ hy)⟩
theorem sj{n:Nat}{raw word text:Tx}{nm:Tx×Tx}(hm:nm∈NM){ps:List (Tx×Tx)}{pls:List Plan}{bk lg kp:Option Mu}(hps:ps.length<=4)(hpl:pls.length=4)(hok : ∀p∈pls,bV p)(hat : ∀p∈ps,p.1∈atT/\p.2∈atT)(hnd:(ps.map Oq).Nodup)(qs:List (Tx×Tx)): ∀(done:List (Tx×Tx)) (prest pdone:List Plan) (L:List D) (K:List (Tx×Tx)) (v:VS) (Γ:ag) (a5 a6 a7:Option V),ps=done++qs->pls=pdone++prest->done.length=pdone.length->L.length=done.length->HS nm (aI pls) L v (oK bk lg kp K) Γ->iY K done.length->((K++qs).map Oq).Nodup->
  z7 raw word text nm ps (aI pls) bk lg kp (bO (pF n) (qs.map fun q => .d (.str q.1)) (hY raw word text nm ps a5 a6 a7) Γ) (spec nm qs prest (FV nm v) L K):=by
 induction qs with
 |nil=>exact fun done prest pdone L K v Γ a5 a6 a7 e1 e2 e3 hL hS hK hKn => .done K a5 a6 a7 v Γ rfl hS rfl rfl (hK.up (by rw[e1,OE];exact Ox _)) (by rw[OE] at hKn;exact hKn)
 |cons q qs ih=>
  intro done prest pdone L K v Γ a5 a6 a7 e1 e2 e3 hL hS hK hKn;have hlen:=len_app e1;cases prest with
  |nil=>
   rw[e2,OE] at hpl;exact kn (cb (e3.trans hpl).symm) (N0 (cb hlen) hps)
  |cons p prest=>
  have hqm:=Og (oW e1);have hp:pls[L.length]?=some p:=hL▸e3▸oW e2;have hl:L.length<=4/\K.length<=4:=⟨jx (cb hL) (cb hlen) hps,jx hK.len (cb hlen) hps⟩;obtain⟨G,hw⟩:=hS.two (q:=q) hm n;obtain⟨n1,n2,n3⟩:=wc hKn;have hF1:bK nm q (FV nm v)=FV nm (ew nm q v):=(D3 nm q v).symm;have hF2:cW nm p.2.2.1 (FV nm (ew nm q v))=FV nm (dV nm p.2.2.1 (ew nm q v)):=(CY hm (hok p (Og hp)).d _ _ _ _ _ _).symm;have P:=GH (raw:=raw) (word:=word) (text:=text) (a6:=a6) (a7:=a7) hw hm hp (hok p (Og hp)) (N0 hl.1 (by decide)) (N0 (Sp hpl) (by decide)) (fun Γ=>kC (kO (k:=q.1) (v:=q.2) hnd hqm)) n2 n1 hK.at_ hl.2
  show z7 raw word text nm ps (aI pls) bk lg kp (bO (pF n) (.d (.str q.1)::qs.map fun q => .d (.str q.1)) _ _) (dY nm q p (FV nm v) L K (spec nm qs prest (cW nm p.2.2.1 (bK nm q (FV nm v))) (L++[entry (bK nm q (FV nm v))])))
  have one : ∀{r:Res Fl},vy n raw word text nm ps q a6 a7 Γ=r->pF n (.d (.str q.1)) (hY raw word text nm ps a5 a6 a7) Γ=r:=fun e=>e
  cases P with
  |next K' b6 b7 Γ' e hS' h s=>
   rw[s,bW (fb:=pF n) (v := .d (.str q.1)) (one e) rfl,hF1,hF2];have hK':iY K' (done.length+1)/\((K'++qs).map Oq).Nodup:=by
    rcases h with rfl | rfl
    ·exact⟨hK.up (Rj _),n3⟩
    ·exact⟨hK.app (hat _ hqm),by rw[Oh];exact hKn⟩
   exact ih (done++[q]) prest (pdone++[p]) (L++[entry (FV nm (ew nm q v))]) K' _ Γ' _ b6 b7 (by rw[e1,Oh];rfl) (by rw[e2,Oh];rfl) (by rw[N1,N1,e3];rfl) (by rw[N1,N1,hL];rfl) hS' (by rw[N1];exact hK'.1) hK'.2
  |ret ρ Γ' e hF s=>rw[s,hF1,hF2];exact .ret K ρ Γ' (jE (fb:=pF n) (v := .d (.str q.1)) (one e)) rfl hF
  |exc m ρ Γ' d e t hF s=>rw[s,hF1,hF2];exact .exc m ρ Γ' (BF (fb:=pF n) (v := .d (.str q.1)) (one e)) t hF
noncomputable def NT:List (Tx×(Tx×Tx)):=[([107,32,118],([107],[118])),([123,97,32,98,125,32,118],([97,32,98],[118])),([107,32,107],([107],[107])),([32,34,118,34,32,107,32],([118],[107]))]
noncomputable def W3:List Tx:=[[115,99,114,105,112,116],[115],[115,99,114,105]]
theorem Am : ∀q∈NT,q.2∈NM:=by decide
theorem Dq(n:Nat):(NT.map fun q=>RG.val (calls TT FF (n+8) true 32 [.d (.str q.1),.d (.str [102,105,108,116,101,114])] []))=NT.map fun q=>some (.d (au [q.2.1,q.2.2])):=by kernel_rfl
theorem n3(n:Nat):(W3.map fun w=>RG.val (calls TT FF (n+3) true 3 [.d (.str [102,105,108,116,101,114,84,121,112,101]),.d (.str w),.d (.tup [.str [107,101,121],.str [115,99,114,105,112,116],.str [118,97,108,117,101]])] []))=W3.map fun _=>some (.d (.str [115,99,114,105,112,116])):=by kernel_rfl
section
variable{r:List Ch}{ds:List (Tx×Tx)}{nm:Tx×Tx}{pls:List Plan}{bk lg kp:Option Mu}{word text:Tx}{zx:Tx}{zw:Int}{n:Nat}
noncomputable abbrev iD(plans:D)(nm:Tx×Tx)(zx:Tx)(zw:Int)(bk lg kp:Option Mu):ag:=[qQ 0,qP plans (au [nm.1,nm.2]),some (.sd []),some (.vd [(tZ,.loc 7)]),some (.sd []),some (.sd []),some (.list []),m4 sc zx zw,bk,lg,kp]
inductive Jt(nm:Tx×Tx)(plans:D)(bk lg kp:Option Mu)(R:RG)(sp:D×cH×List D):Prop
 |ok (K:List (Tx×Tx)) (Γ:ag) (e:R = .ok (.d (.str (gg K))) Γ) (h:sp.1=kS K) (hF:iK nm plans bk lg kp Γ sp.2.1 sp.2.2)
 |ex (n:Nat) (Γ:ag) (e:R = .ex n Γ) (t:tells n Γ sp.1) (hF:iK nm plans bk lg kp Γ sp.2.1 sp.2.2)
theorem Lj(g:GoodR r ds)(hq:(text,nm)∈NT)(hpl:pls.length=4)(hok : ∀p∈pls,bV p):Jt nm (aI pls) bk lg kp (calls TT FF (n+9) true 34 [.loc 0,.d (au (dk (ax r) word text))] (iD (aI pls) nm zx zw bk lg kp)) (spec nm (bJ ds) pls (FV nm (dv zx zw)) [] []):=by
 have hm:=Am _ hq;obtain⟨Y0,h32⟩:=RG.val_eq (aS (Dq n) _ hq);have h26:=g.AI (n+1);have hl:=sj (n:=n) (raw:=ax r) (word:=word) (text:=text) (bk:=bk) (lg:=lg) (kp:=kp) hm g.pl hpl hok g.dR g.nd (bJ ds) [] pls [] [] [] (dv zx zw) (HG 0 (aI pls) (au [nm.1,nm.2]) [(tZ,.loc 7)] [] zx zw (oK bk lg kp []) []) none none none rfl rfl rfl rfl ⟨⟨by simp[dv],by simp[dv]⟩,.inr ⟨rfl,rfl⟩⟩ ⟨by simp,by simp⟩ (by simpa using g.nd)
 have hpre : ∀z,(fi.from 4).ex (TG pZ) (calls TT FF (n+8)) .free (hY (ax r) word text nm (bJ ds) none none none) (HG 0 (aI pls) (au [nm.1,nm.2]) [(tZ,.loc 7)] [] zx zw (oK bk lg kp []) [])=z->fi.ex (TG pZ) (calls TT FF (n+8)) .free [some (.loc 0),some (.d (au (dk (ax r) word text))),none,none,none,none,none,none] (iD (aI pls) nm zx zw bk lg kp)=z:=by
  intro z hz;refine af (s:=fi.ak 0) (ss:=fi.from 1) (ρ1:=[some (.loc 0),some (.d (au (dk (ax r) word text))),none,none,none,none,none,none]) (Γ1:=iD (aI pls) nm zx zw bk lg kp) (aw rfl rfl) ?_
  refine af (s:=fi.ak 1) (ss:=fi.from 2) (ρ1:=[some (.loc 0),some (.d (au (dk (ax r) word text))),some (.d (au [nm.1,nm.2])),none,none,none,none,none]) (Γ1:=iD (aI pls) nm zx zw bk lg kp) (aW (ρ1:=[some (.loc 0),some (.d (au (dk (ax r) word text))),none,none,none,none,none,none]) (az (ad:=393) rfl (aj rfl (aj rfl rfl)) rfl (aN rfl h32) rfl)) ?_
  refine af (s:=fi.ak 2) (ss:=fi.from 3) (ρ1:=[some (.loc 0),some (.d (au (dk (ax r) word text))),some (.d (au [nm.1,nm.2])),some (.d (.bH (aD (bJ ds)))),none,none,none,none]) (Γ1:=iD (aI pls) nm zx zw bk lg kp) (aW (ρ1:=[some (.loc 0),some (.d (au (dk (ax r) word text))),some (.d (au [nm.1,nm.2])),none,none,none,none,none]) (az (ad:=343) rfl (aj rfl rfl) rfl (aN rfl h26) rfl)) ?_
  exact af (s:=fi.ak 3) (ss:=fi.from 4) rfl hz
 have hit:dm (.d (.bH (aD (bJ ds))))=some ((bJ ds).map fun(q:Tx×Tx)=>V.d (D.str q.1)):=lB
 rcases hl with⟨K,a5,a6,a7,v,Γ,h1,h2,h3,h4,h5,h6⟩ | ⟨K,ρ,Γ,h1,h2,h3⟩ | ⟨k,ρ,Γ,h1,h2,h3⟩
 ·obtain⟨Xy,h27⟩:=Gx (n+3) h6 h5.at_ (by have:=h5.len;have:=g.pl;exact bg (N0 ‹_› ‹_›))
  obtain⟨hk,hG⟩:=h2;rcases hG with⟨G,rfl⟩ | ⟨rfl,hv⟩
  ·exact .ok K _ (aH (f:=Mine.sj) rfl rfl (aR (hpre _ (af (s:=fi.ak 4) (ss:=fi.from 5) (cJ rfl hit h1) (aG (s:=fi.ak 5) (ss := .nil) (bP (fe (ad:=350) rfl (aj (fF rfl rfl) rfl) rfl (aN rfl h27) rfl))))))) h4 ⟨v,⟨bk,lg,kp,none⟩,⟨hk,.inl ⟨G,rfl⟩⟩,h3,rfl,rfl,rfl⟩
  ·exact .ok K _ (aH (f:=Mine.sj) rfl rfl (aR (hpre _ (af (s:=fi.ak 4) (ss:=fi.from 5) (cJ rfl hit h1) (aG (s:=fi.ak 5) (ss := .nil) (bP (fe (ad:=350) rfl (aj (fF rfl rfl) rfl) rfl (aN rfl h27) rfl))))))) h4 ⟨v,⟨bk,lg,kp,none⟩,⟨hk,.inr ⟨rfl,hv⟩⟩,h3,rfl,rfl,rfl⟩
 ·exact .ok K Γ (aH (f:=Mine.sj) rfl rfl (aR (hpre _ (aG (s:=fi.ak 4) (ss:=fi.from 5) (cJ rfl hit h1))))) h2 h3
 ·exact .ex k Γ (aH (f:=Mine.sj) rfl rfl (lh (hpre _ (fS (s:=fi.ak 4) (ss:=fi.from 5) (cJ rfl hit h1))))) h2 h3
theorem Ki(g:GoodR r ds)(hq:(text,nm)∈NT)(hw:word∈W3)(hpl:pls.length=4)(hok : ∀p∈pls,bV p):Jt nm (aI pls) bk lg kp (calls TT FF (n+10) true 36 [.loc 0,.d (au (dk (ax r) word text))] (iD (aI pls) nm zx zw bk lg kp)) (spec nm (bJ ds) pls (FV nm (dv zx zw)) [] []):=by
 obtain⟨S8,h3⟩:=RG.val_eq (aS (n3 (n+6)) _ hw);have hpre : ∀z,(fU.ak 2).ex (TG oA) (calls TT FF (n+9)) .free [some (.loc 0),some (.d (au (dk (ax r) word text))),some (.d (.str [115,99,114,105,112,116])),none,none,none,none] (iD (aI pls) nm zx zw bk lg kp)=z->(∀ρ Γ,z≠ .ok .next ρ Γ)->fU.ex (TG oA) (calls TT FF (n+9)) .free [some (.loc 0),some (.d (au (dk (ax r) word text))),none,none,none,none,none] (iD (aI pls) nm zx zw bk lg kp)=z:=by
  intro z hz hne;refine af (s:=fU.ak 0) (ss:=fU.from 1) (ρ1:=[some (.loc 0),some (.d (au (dk (ax r) word text))),none,none,none,none,none]) (Γ1:=iD (aI pls) nm zx zw bk lg kp) (aw rfl rfl) ?_
  refine af (s:=fU.ak 1) (ss:=fU.from 2) (ρ1:=[some (.loc 0),some (.d (au (dk (ax r) word text))),some (.d (.str [115,99,114,105,112,116])),none,none,none,none]) (Γ1:=iD (aI pls) nm zx zw bk lg kp) (aW (ρ1:=[some (.loc 0),some (.d (au (dk (ax r) word text))),none,none,none,none,none]) (az (ad:=160) rfl (aj rfl (aj rfl (aj rfl rfl))) rfl (aN rfl h3) rfl)) ?_
  exact wm hz hne
 rcases Lj (n:=n) (word:=word) (zx:=zx) (zw:=zw) (bk:=bk) (lg:=lg) (kp:=kp) g hq hpl hok with⟨K,Γ,h1,h2,h3⟩ | ⟨k,Γ,h1,h2,h3⟩
 ·exact .ok K Γ (aH (f:=Mine.uM) rfl rfl (aR (hpre _ (aV rfl (aG (bP (az (vs:=[.loc 0,.d (au (dk (ax r) word text))]) (ad:=407) rfl rfl rfl (dj h1) rfl)))) (fun _ _ h=>by cases h)))) h2 h3
 ·exact .ex k Γ (aH (f:=Mine.uM) rfl rfl (lh (hpre _ (aV rfl (fS (qY (az (vs:=[.loc 0,.d (au (dk (ax r) word text))]) (ad:=407) rfl rfl rfl (dj h1) rfl)))) (fun _ _ h=>by injection h)))) h2 h3
theorem J1(g:GoodR r ds)(hq:(text,nm)∈NT)(hw:word∈W3)(hpl:pls.length=4)(hok : ∀p∈pls,bV p): ∃Γ,calls TT FF (n+11) true 51 [.loc 0,.d (au (dk (ax r) word text))] (iD (aI pls) nm zx zw bk lg kp) = .ok (.d (spec nm (bJ ds) pls (FV nm (dv zx zw)) [] []).1) Γ/\iK nm (aI pls) bk lg kp Γ (spec nm (bJ ds) pls (FV nm (dv zx zw)) [] []).2.1 (spec nm (bJ ds) pls (FV nm (dv zx zw)) [] []).2.2:=by
 rcases Ki (n:=n) (word:=word) (zx:=zx) (zw:=zw) (bk:=bk) (lg:=lg) (kp:=kp) g hq hw hpl hok with⟨K,Γ,h1,h2,h3⟩ | ⟨k,Γ,h1,⟨Vi,c,t,ec,lv,info,noted,line,xx,T,rfl,rfl,h4,h5⟩,h3⟩
 ·refine⟨Γ,?_,h3⟩
  rw[h2];exact aH (f:=Af) rfl rfl (aR (ρ:=[some (.loc 0),some (.d (au (dk (ax r) word text))),none]) (aG (oz (aG (bP (d5 (vs:=[.d (.int 0),.d (.str (gg K))]) (aj rfl (aj (az (vs:=[.loc 0,.d (au (dk (ax r) word text))]) (ad:=421) rfl rfl rfl (dj h1) rfl) rfl)) rfl rfl))))))
 ·refine⟨_,aH (f:=Af) rfl rfl (aR (ρ:=[some (.loc 0),some (.d (au (dk (ax r) word text))),none]) (aG (zW (ρ2:=[some (.loc 0),some (.d (au (dk (ax r) word text))),some (.loc Vi.length)]) (fS (qY (xh (xO rfl (xM (az (vs:=[.loc 0,.d (au (dk (ax r) word text))]) (ad:=421) rfl rfl rfl (dj h1) rfl)))))) rfl bN ?_))),h3⟩
  rw[h5];exact aG (bP (d5 (vs:=[.d (.int c),.d (.str t),.d ec,.d (.int lv),.d (.int 0),.d (.str info),.d (.int line)]) (aj (cy rfl (dC rfl rfl)) (aj (cy rfl (dC rfl rfl)) (aj (cy rfl (dC rfl h4)) (aj (cy rfl (dC rfl rfl)) (aj (cy rfl (dC rfl rfl)) (aj (cy rfl (dC rfl rfl)) (aj (cy rfl (dC rfl rfl)) rfl))))))) rfl rfl))
end
end Mine.Pl
namespace Mine
noncomputable def av.uV:av->Nat->av
 |_,0 => .nil
 | .nil,_ => .nil
 | .cons s ss,n+1 => .cons s (ss.uV n)
end Mine
namespace Mine.Pl
theorem BU{T:Tab}{O:aL}{m:Md}{ρ1:aq}{Γ1:ag}{r:Res Fl}(n:Nat): ∀(ss:av) (ρ:aq) (Γ:ag),(ss.uV n).ex T O m ρ Γ = .ok .next ρ1 Γ1->(ss.from n).ex T O m ρ1 Γ1=r->ss.ex T O m ρ Γ=r:=by
 induction n with
 |zero=>intro ss ρ Γ h h2;cases ss<;>(cases h;exact h2)
 |succ n ih=>intro ss ρ Γ h h2;cases ss with
  |nil=>cases h;exact h2
  |cons s ss=>
   obtain⟨ρ2,Qp,h1,h⟩:=lS h;exact af h1 (ih ss _ _ h h2)
theorem nE : ∀i:Int,gw i i=true
 | .ofNat a=>OZ a
 | .negSucc a=>OZ a
theorem s6 : ∀(K:List (Tx×Tx)),cg 9 (kS K) (kS K)=some true:=fun K=>uj _
noncomputable def rS:Nat->D->Bool
 |0,d=>match d with
  | .none=>true
  | .int _=>true
  | .str _=>true
  |_=>false
 |n+1,d=>match d with
  | .tup l=>l.all (rS n)
  | .lst l=>l.all (rS n)
  | .none=>true
  | .int _=>true
  | .str _=>true
  |_=>false
theorem qJ{n:Nat}(ih : ∀d,rS n d=true->cg n d d=some true): ∀{l:List D},l.all (rS n)=true->eg (cg n) l l=some true:=fun{l}=>by
 induction l with
 |nil=>exact fun _=>rfl
 |cons a l k=>
  intro h;rw[Rl,OG] at h;exact eH (ih a h.1) (k h.2)
theorem pC(n:Nat)(i:Int):cg n (.int i) (.int i)=some true:=by cases n<;>exact congrArg some (nE i)
theorem r4(n:Nat): ∀d,rS n d=true->cg n d d=some true:=by
 induction n with
 |zero=>
  intro d h;cases d with
  |none=>rfl
  |int i=>exact pC _ i
  |str x=>exact jD _ x
  |_=>exact H' h
 |succ n ih=>
  intro d h;cases d with
  |none=>rfl
  |int i=>exact pC _ i
  |str x=>exact jD _ x
  |tup l=>exact pL (qJ ih h)
  |lst l=>exact uE (qJ ih h)
  |_=>exact H' h
theorem wK(p:Plan):cg 9 (gL p) (gL p)=some true:=r4 9 _ rfl
theorem y5(x:Tx):cg 9 (jJ x) (jJ x)=some true:=r4 9 _ rfl
theorem qS(n:Nat): ∀s,cg n (oD s) (oD s)=some true
 |none=>by cases n<;>rfl
 |some x=>jD n x
theorem tS(n:Nat)(F:cH):cg (n+1) (fZ F) (fZ F)=some true:=uE (eH (qS _ _) (eH (qS _ _) (eH (qS _ _) (eH (qS _ _) rfl))))
theorem zi(F:cH):cg 9 (entry F) (entry F)=some true:=pL (eH (jD _ _) (eH (pC _ _) (eH (tS _ F) rfl)))
def mB(L:List D):Prop:=eg (cg 9) L L=some true
theorem mB.app{L:List D}{x:D}(h:mB L)(hx:cg 9 x x=some true):mB (L++[x]):=by
 induction L with
 |nil=>exact eH hx rfl
 |cons y L ih=>
  obtain⟨p,q,h1,h2,h3⟩:=lI h;obtain⟨rfl,rfl⟩:=Ol.mp h3;exact eH h1 (ih h2)
theorem BV{nm:Tx×Tx}(qs:List (Tx×Tx)): ∀(ps:List Plan) (F:cH) (L:List D) (K:List (Tx×Tx)),mB L->cg 9 (spec nm qs ps F L K).1 (spec nm qs ps F L K).1=some true/\mB (spec nm qs ps F L K).2.2:=by
 induction qs with
 |nil=>exact fun ps F L K h=>⟨s6 K,h⟩
 |cons q qs ih=>
  intro ps F L K h;cases ps with
  |nil=>exact⟨s6 K,h⟩
  |cons p ps=>
  have h2:=h.app (zi (bK nm q F));show cg 9 (dY nm q p F L K (spec nm qs ps _ _)).1 (dY nm q p F L K (spec nm qs ps _ _)).1=some true/\mB (dY nm q p F L K (spec nm qs ps _ _)).2.2
  have h3:=fun K=>ih ps (cW nm p.2.2.1 (bK nm q F)) _ K h2
  unfold dY;cases I' p.1 3 with
  |true=>exact⟨s6 K,h2⟩
  |false=>cases I' p.1 4 with
   |true=>exact h3 K
   |false=>cases I' p.1 0 with
    |true=>cases so p.2.1 with
     |none=>exact⟨y5 _,h2⟩
     |some b=>exact h3 _
    |false=>exact⟨wK p,h2⟩
noncomputable def BN:List (Tx×D):=[([107],.tup [.int 1,.str [109,117,115,116,32,104,97,118,101,32,101,120,97,99,116,108,121,32,116,119,111,32,118,97,114,105,97,98,108,101,32,110,97,109,101,115],.tup [.str [84,67,76],.str [83,89,78,84,65,88],.str [100,105,99,116],.str [102,105,108,116,101,114]]]),([107,32,118,32,122],.tup [.int 1,.str [109,117,115,116,32,104,97,118,101,32,101,120,97,99,116,108,121,32,116,119,111,32,118,97,114,105,97,98,108,101,32,110,97,109,101,115],.tup [.str [84,67,76],.str [83,89,78,84,65,88],.str [100,105,99,116],.str [102,105,108,116,101,114]]]),([],.tup [.int 1,.str [109,117,115,116,32,104,97,118,101,32,101,120,97,99,116,108,121,32,116,119,111,32,118,97,114,105,97,98,108,101,32,110,97,109,101,115],.tup [.str [84,67,76],.str [83,89,78,84,65,88],.str [100,105,99,116],.str [102,105,108,116,101,114]]]),([123,107,32,118],.tup [.int 1,.str [117,110,109,97,116,99,104,101,100,32,111,112,101,110,32,98,114,97,99,101,32,105,110,32,108,105,115,116],.tup [.str [84,67,76],.str [86,65,76,85,69],.str [76,73,83,84],.str [66,82,65,67,69]]])]
noncomputable def z9:List Tx:=NT.map (·.1)++BN.map (·.1)
noncomputable def IV:List D:=NT.map fun q=>au [q.2.1,q.2.2]
theorem vG(n:Nat){c:Int}{i:Nat}{t:Tx}{N:D}(hb:gZ .Mod (.int c) (.int 8)=some (.int (.ofNat i)))(h1:z9[i]?=some t)(h2:(!OB 4 i)=true)(h3:IV[i]?=some N):calls TT FF (n+1) true 45 [.d (.int c)] [] = .ok (.d (.tup [.str t,N])) []:=
 aH (f:=Ap) rfl rfl (aR (af (s:=ik.ak 0) (ss:=ik.from 1) (aW (aM (u := .d (.lst (z9.map .str))) (w := .d (.str t)) rfl (aC rfl rfl hb) (bB (by rw[Oc,h1];rfl) (by decide)))) (aG (s:=ik.ak 1) (ss:=ik.from 2) (aV (aY (bc (aC rfl rfl hb) rfl (congrArg some h2)) rfl) (aG (bP (d5 (vs:=[.d (.str t),.d N]) (aj rfl (aj (aM (u := .d (.lst IV)) rfl (aC rfl rfl hb) (bB h3 (by decide))) rfl)) rfl rfl)))))))
theorem yu(n:Nat){c:Int}{i:Nat}{t:Tx}(hb:gZ .Mod (.int c) (.int 8)=some (.int (.ofNat i)))(h1:z9[i]?=some t)(h2:(!OB 4 i)=false)(h3:(!OB 7 i)=true):calls TT FF (n+1) true 45 [.d (.int c)] [] = .ok (.d (.tup [.str t,(BN.getD 0 ([],.none)).2])) []:=
 aH (f:=Ap) rfl rfl (aR (af (s:=ik.ak 0) (ss:=ik.from 1) (aW (aM (u := .d (.lst (z9.map .str))) (w := .d (.str t)) rfl (aC rfl rfl hb) (bB (by rw[Oc,h1];rfl) (by decide)))) (af (s:=ik.ak 1) (ss:=ik.from 2) (aw (aY (bc (aC rfl rfl hb) rfl (congrArg some h2)) rfl) rfl) (aG (s:=ik.ak 2) (ss:=ik.from 3) (aV (aY (bc (aC rfl rfl hb) rfl (congrArg some h3)) rfl) rfl)))))
theorem J2(n:Nat){c:Int}(hb:gZ .Mod (.int c) (.int 8)=some (.int (.ofNat 7))):calls TT FF (n+1) true 45 [.d (.int c)] [] = .ok (.d (.tup [.str [123,107,32,118],(BN.getD 3 ([],.none)).2])) []:=
 aH (f:=Ap) rfl rfl (aR (af (s:=ik.ak 0) (ss:=ik.from 1) (aW (aM (w := .d (.str [123,107,32,118])) rfl (aC rfl rfl hb) rfl)) (af (s:=ik.ak 1) (ss:=ik.from 2) (aw (aY (bc (aC rfl rfl hb) rfl rfl) rfl) rfl) (af (s:=ik.ak 2) (ss:=ik.from 3) (aw (aY (bc (aC rfl rfl hb) rfl rfl) rfl) rfl) rfl))))
theorem K9(n:Nat)(c:Int): ∃text N Γ,calls TT FF (n+1) true 45 [.d (.int c)] [] = .ok (.d (.tup [.str text,N])) Γ/\((text,N)∈BN\/∃nm,(text,nm)∈NT/\N=au [nm.1,nm.2]):=by
 obtain⟨i,hi,hlt⟩:=cx c 7;have hb:gZ .Mod (.int c) (.int 8)=some (.int (.ofNat i)):=congrArg (fun z=>some (D.int z)) hi
 revert hb;clear hi;revert i;refine KZ ?_ ?_ ?_ ?_ ?_ ?_ ?_ ?_<;>intro hb
 ·exact⟨_,_,_,vG n hb rfl rfl rfl,.inr ⟨_,.head _,rfl⟩⟩
 ·exact⟨_,_,_,vG n hb rfl rfl rfl,.inr ⟨_,.tail _ (.head _),rfl⟩⟩
 ·exact⟨_,_,_,vG n hb rfl rfl rfl,.inr ⟨_,.tail _ (.tail _ (.head _)),rfl⟩⟩
 ·exact⟨_,_,_,vG n hb rfl rfl rfl,.inr ⟨_,.tail _ (.tail _ (.tail _ (.head _))),rfl⟩⟩
 ·exact⟨_,_,_,yu n hb rfl rfl rfl,.inl (.head _)⟩
 ·exact⟨_,_,_,yu n hb rfl rfl rfl,.inl (.tail _ (.head _))⟩
 ·exact⟨_,_,_,yu n hb rfl rfl rfl,.inl (.tail _ (.tail _ (.head _)))⟩
 ·exact⟨_,_,_,J2 n hb,.inl (.tail _ (.tail _ (.tail _ (.head _))))⟩
noncomputable abbrev jl(a:Option V)(raw:Tx)(P:D)(c1:Int)(plans:D)(text:Tx)(N:D)(size:Int)(ws:List Tx):aq:=[a,some (.d (.str raw)),some (.d P),some (.d (.int c1)),some (.d plans),some (.d (.str text)),some (.d N),some (.d (.int size)),some (.d (au ws)),none,none,none,none]
noncomputable abbrev qV(raw word text:Tx):List Tx:=[[100,105,99,116],[102,105,108,116,101,114],raw,word,text,cG,[109,111,114,101]]
noncomputable abbrev rX(n:Nat)(a:Option V)(raw:Tx)(P:D)(c1:Int)(plans:D)(text:Tx)(N:D)(size:Int)(ws:List Tx):Option V:=RG.val ((ei.from 5).ex (TG oX) (calls TT FF (n+14)) .free (jl a raw P c1 plans text N size ws) []).out
theorem IC(n:Nat)(a:Option V)(raw:Tx)(P:D)(c1:Int)(plans:D)(text:Tx)(N:D):(W3.map fun w=>rX n a raw P c1 plans text N 4 [[100,105,99,116],[102,105,108,116,101,114],raw,w])=W3.map fun _=>some (.d (.bool true)):=by kernel_rfl
theorem Il(n:Nat)(a:Option V)(raw:Tx)(P:D)(c1:Int)(plans:D)(text:Tx)(N:D):(W3.map fun w=>rX n a raw P c1 plans text N 5 [[100,105,99,116],[102,105,108,116,101,114],raw,w,text])=W3.map fun _=>some (.d (.bool true)):=by kernel_rfl
theorem Io(n:Nat)(a:Option V)(raw:Tx)(P:D)(c1:Int)(plans:D)(text:Tx)(N:D):(W3.map fun w=>rX n a raw P c1 plans text N 7 (qV raw w text))=W3.map fun _=>some (.d (.bool true)):=by kernel_rfl
theorem G3(n:Nat)(a:Option V)(raw:Tx)(P:D)(c1:Int)(plans:D):(W3.map fun w=>BN.map fun q=>rX n a raw P c1 plans q.1 q.2 6 (dk raw w q.1))=W3.map fun _=>BN.map fun _=>some (.d (.bool true)):=by kernel_rfl
theorem G5(n:Nat)(a:Option V)(c1:Int)(plans:D):(W3.map fun w=>NT.map fun q=>iC.map fun b=>rX n a b.1 b.2 c1 plans q.1 (au [q.2.1,q.2.2]) 6 (dk b.1 w q.1))=W3.map fun _=>NT.map fun _=>iC.map fun _=>some (.d (.bool true)):=by kernel_rfl
theorem my{one:V->aq->ag->Res (Option V)}{v:V}{r:List V}{ρ ρ1:aq}{Γ Γ1:ag}{acc:List D}{x:D}{z:Res (List D)}(h:one v ρ Γ = .ok (some (.d x)) ρ1 Γ1)(h2:di one r ρ1 Γ1 (x::acc)=z):di one (v::r) ρ Γ acc=z:=nP h rfl h2
theorem Iy(Γ:ag)(z:Int): ∃k∈([4,5,6,7]:List Nat),cF Γ (.d (.lst [.int 6,.int 6,.int 6,.int 5,.int 6,.int 4,.int 6,.int 7])) (.d (.int (OF z (.ofNat 8))))=some (.d (.int (.ofNat k))):=by
 obtain⟨i,h,hi⟩:=cx z 7;have hl:i<([6,6,6,5,6,4,6,7]:List Nat).length:=hi;refine⟨_,(by decide : ∀k∈([6,6,6,5,6,4,6,7]:List Nat),k∈([4,5,6,7]:List Nat)) _ (PB hl),?_⟩
 rw[h];exact bB (l:=([6,6,6,5,6,4,6,7]:List Nat).map fun k => .int (.ofNat k)) (by rw[Oc,N8 hl];rfl) (by decide)
theorem Hm(Γ:ag)(z:Int): ∃w∈W3,cF Γ (.d (au W3)) (.d (.int (OF z (.ofNat 3))))=some (.d (.str w)):=by
 obtain⟨i,h,hi⟩:=cx z 2;have hl:i<W3.length:=hi;refine⟨_,PB hl,?_⟩
 rw[h];exact bB (by rw[Oc,N8 hl];rfl) (by decide)
noncomputable def kM(k:Nat)(raw w text:Tx):List Tx:=(qV raw w text).take k
theorem IA{k:Nat}(hk:k∈([4,5,6,7]:List Nat))(raw w text:Tx):dq (.d (au (qV raw w text))) none (some (.ofNat k))=some (.d (au (kM k raw w text))):=by
 simp only[N7,Ou,or_false] at hk;rcases hk with rfl | rfl | rfl | rfl<;>rfl
theorem L5(n:Nat){ns:List Int}(hns:ns.length<=63)(raw:Tx)(P:D): ∃pls:List Plan,(∀p∈pls,bV p)/\pls.length=4/\∃text N,((text,N)∈BN\/∃nm,(text,nm)∈NT/\N=au [nm.1,nm.2])/\∃k∈([4,5,6,7]:List Nat),∃w∈W3,∃c1,
  ∀r,(ei.from 5).ex (TG oX) (calls TT FF (n+3)) .free (jl (some (.d (.lst (ns.map .int)))) raw P c1 (aI pls) text N (.ofNat k) (kM k raw w text)) []=r->ei.ex (TG oX) (calls TT FF (n+3)) .free [some (.d (.lst (ns.map .int))),some (.d (.str raw)),some (.d P),none,none,none,none,none,none,none,none,none,none] []=r:=by
 have h41:=fun j own=>ET (n+2) (ns:=ns) (bg ‹_›) j own
 obtain⟨p0,ok0,g0⟩:=Ay (n+1) (ns.getD 2 0);obtain⟨p1,ok1,g1⟩:=Ay (n+1) (ns.getD 3 1);obtain⟨p2,ok2,g2⟩:=Ay (n+1) (ns.getD 4 104);obtain⟨p3,ok3,g3⟩:=Ay (n+1) (ns.getD 5 48);obtain⟨text,N,Y1,h45,hN⟩:=K9 (n+2) (ns.getD 1 0);obtain⟨k,hk,hki⟩:=Iy [] (Om (ns.getD 1 0) (.ofNat 8));obtain⟨w,hw,hwi⟩:=Hm [] (Om (ns.getD 1 0) (.ofNat 64));refine⟨[p0,p1,p2,p3],fun p hp => ?_,rfl,text,N,hN,k,hk,w,hw,ns.getD 1 0,fun r hr => ?_⟩
 ·simp only[N7,Ou,or_false] at hp
  rcases hp with rfl | rfl | rfl | rfl<;>assumption
 refine af (s:=ei.ak 0) (ss:=ei.from 1) (ρ1:=[some (.d (.lst (ns.map .int))),some (.d (.str raw)),some (.d P),some (.d (.int (ns.getD 1 0))),none,none,none,none,none,none,none,none,none]) (Γ1:=[]) (aW (ρ1:=[some (.d (.lst (ns.map .int))),some (.d (.str raw)),some (.d P),none,none,none,none,none,none,none,none,none,none]) (az (vs:=[.d (.lst (ns.map .int)),.d (.int (.ofNat 1)),.d (.int 0)]) (ad:=702) rfl rfl rfl (aN rfl (h41 1 0)) rfl)) ?_
 refine af (s:=ei.ak 1) (ss:=ei.from 2) (ρ1:=[some (.d (.lst (ns.map .int))),some (.d (.str raw)),some (.d P),some (.d (.int (ns.getD 1 0))),some (.d (aI [p0,p1,p2,p3])),none,none,none,none,none,none,none,none]) (Γ1:=[]) (aW (ρ1:=[some (.d (.lst (ns.map .int))),some (.d (.str raw)),some (.d P),some (.d (.int (ns.getD 1 0))),none,none,none,none,none,none,none,none,none]) (v := .d (aI [p0,p1,p2,p3])) (fJ (v := .d (.eF 0 4 1)) (vs:=[.d (.int 0),.d (.int 1),.d (.int 2),.d (.int 3)]) rfl rfl rfl ⟨_,my (ρ1:=[some (.d (.int 0)),some (.d (.lst (ns.map .int)))]) (Γ1:=[]) (x:=cL p0) ?_ (my (ρ1:=[some (.d (.int 1)),some (.d (.lst (ns.map .int)))]) (Γ1:=[]) (x:=cL p1) ?_ (my (ρ1:=[some (.d (.int 2)),some (.d (.lst (ns.map .int)))]) (Γ1:=[]) (x:=cL p2) ?_ (my (ρ1:=[some (.d (.int 3)),some (.d (.lst (ns.map .int)))]) (Γ1:=[]) (x:=cL p3) ?_ rfl)))⟩)) ?_
 ·exact hW (ρ1:=[some (.d (.int 0)),some (.d (.lst (ns.map .int)))]) (Γ1:=[]) rfl rfl (az (vs:=[.d (.int (ns.getD 2 0))]) (ad:=733) rfl (aj (az (vs:=[.d (.lst (ns.map .int)),.d (.int (.ofNat 2)),.d (.int 0)]) (ad:=702) rfl rfl rfl (aN rfl (h41 2 0)) rfl) rfl) rfl (aN rfl g0) rfl)
 ·exact hW (ρ1:=[some (.d (.int 1)),some (.d (.lst (ns.map .int)))]) (Γ1:=[]) rfl rfl (az (vs:=[.d (.int (ns.getD 3 1))]) (ad:=733) rfl (aj (az (vs:=[.d (.lst (ns.map .int)),.d (.int (.ofNat 3)),.d (.int 1)]) (ad:=702) rfl rfl rfl (aN rfl (h41 3 1)) rfl) rfl) rfl (aN rfl g1) rfl)
 ·exact hW (ρ1:=[some (.d (.int 2)),some (.d (.lst (ns.map .int)))]) (Γ1:=[]) rfl rfl (az (vs:=[.d (.int (ns.getD 4 104))]) (ad:=733) rfl (aj (az (vs:=[.d (.lst (ns.map .int)),.d (.int (.ofNat 4)),.d (.int 104)]) (ad:=702) rfl rfl rfl (aN rfl (h41 4 104)) rfl) rfl) rfl (aN rfl g2) rfl)
 ·exact hW (ρ1:=[some (.d (.int 3)),some (.d (.lst (ns.map .int)))]) (Γ1:=[]) rfl rfl (az (vs:=[.d (.int (ns.getD 5 48))]) (ad:=733) rfl (aj (az (vs:=[.d (.lst (ns.map .int)),.d (.int (.ofNat 5)),.d (.int 48)]) (ad:=702) rfl rfl rfl (aN rfl (h41 5 48)) rfl) rfl) rfl (aN rfl g3) rfl)
 refine af (s:=ei.ak 2) (ss:=ei.from 3) (ρ1:=[some (.d (.lst (ns.map .int))),some (.d (.str raw)),some (.d P),some (.d (.int (ns.getD 1 0))),some (.d (aI [p0,p1,p2,p3])),some (.d (.str text)),some (.d N),none,none,none,none,none,none]) (Γ1:=[]) (bo (v := .d (.tup [.str text,N])) (ρ1:=[some (.d (.lst (ns.map .int))),some (.d (.str raw)),some (.d P),some (.d (.int (ns.getD 1 0))),some (.d (aI [p0,p1,p2,p3])),none,none,none,none,none,none,none,none]) (Γ1:=[]) (az (vs:=[.d (.int (ns.getD 1 0))]) (ad:=726) rfl rfl rfl (aN rfl h45) rfl) rfl) ?_
 refine af (s:=ei.ak 3) (ss:=ei.from 4) (ρ1:=[some (.d (.lst (ns.map .int))),some (.d (.str raw)),some (.d P),some (.d (.int (ns.getD 1 0))),some (.d (aI [p0,p1,p2,p3])),some (.d (.str text)),some (.d N),some (.d (.int (.ofNat k))),none,none,none,none,none]) (Γ1:=[]) (aW (ρ1:=[some (.d (.lst (ns.map .int))),some (.d (.str raw)),some (.d P),some (.d (.int (ns.getD 1 0))),some (.d (aI [p0,p1,p2,p3])),some (.d (.str text)),some (.d N),none,none,none,none,none,none]) (aM rfl (aC (aC rfl rfl rfl) rfl rfl) hki)) ?_
 refine af (s:=ei.ak 4) (ss:=ei.from 5) (ρ1:=jl (some (.d (.lst (ns.map .int)))) raw P (ns.getD 1 0) (aI [p0,p1,p2,p3]) text N (.ofNat k) (kM k raw w text)) (Γ1:=[]) (aW (ρ1:=[some (.d (.lst (ns.map .int))),some (.d (.str raw)),some (.d P),some (.d (.int (ns.getD 1 0))),some (.d (aI [p0,p1,p2,p3])),some (.d (.str text)),some (.d N),some (.d (.int (.ofNat k))),none,none,none,none,none]) (v := .d (au (kM k raw w text))) (pV (GD (vs:=[.d (.str [100,105,99,116]),.d (.str [102,105,108,116,101,114]),.d (.str raw),.d (.str w),.d (.str text),.d (.str cG),.d (.str [109,111,114,101])]) (aj rfl (aj rfl (aj rfl (aj (aM rfl (aC (aC rfl rfl rfl) rfl rfl) hwi) (aj rfl (aj rfl (aj rfl rfl))))))) rfl rfl) rfl (IA hk raw w text))) hr
theorem Gf{o0 o1 o2 o3 o4 o5 o6 o7:Option Mu}{B:List (Tx×Tx)}{F:cH}(n:Nat)(h:fw B F)(T:ag):calls TT FF (n+2) true 55 [.loc 8] (o0::o1::o2::o3::o4::o5::o6::o7::some (.sd (aD B))::T) = .ok (.d (fZ F)) (o0::o1::o2::o3::o4::o5::o6::o7::some (.sd (aD B))::T):=by
 have:calls TT FF (n+2) true 55 [.loc 8] (o0::o1::o2::o3::o4::o5::o6::o7::some (.sd (aD B))::T) = .ok (.d (.lst [(bw tK (aD B)).getD .none,(bw tV (aD B)).getD .none,(bw FR (aD B)).getD .none,(bw tZ (aD B)).getD .none])) (o0::o1::o2::o3::o4::o5::o6::o7::some (.sd (aD B))::T):=by kernel_rfl
 rw[this];simp only[h.look]
theorem NP{nm:Tx×Tx}(hm:nm∈NM):fw [(tZ,d7)] (FV nm (dv d7 1)):=by
 refine⟨by simp,fun w => ?_⟩
 simp only[NM,N7,Ou,or_false] at hm;have h : ∀nm:Tx×Tx,ao tZ nm.1=false->ao tZ nm.2=false->bw w [(tZ,d7)]=FV nm (dv d7 1) w:=by
  intro nm h1 h2;simp only[eJ,eK,FV,dv,sv];have e:ao nn sc=false:=by decide
  rw[e];cases q:ao w tZ with
  |true=>have e:=bG q;subst e;rw[h1,h2];rfl
  |false=>cases ao w nm.2<;>cases ao w nm.1<;>rfl
 rcases hm with rfl | rfl | rfl | rfl<;>exact h _ (by decide) (by decide)
structure Ends(n:Nat)(Γ:ag)(F:cH)(L:List D):Prop where
 cq:kB Γ 13 (.loc 0)=some (.d (.int 0))
 a9:kB Γ 9 (.loc 0)=some (.loc 1)
 log:cF Γ (.loc 1) (.d (.str [108,111,103]))=some (.loc 6)
 g6:bq Γ 6=some (.list L)
 g9:bq Γ 9=some (.list L)
 AL:calls TT FF (n+4) true 48 [.loc 0] Γ = .ok (.d (fZ F)) Γ
 FD:calls TT FF (n+4) true 55 [.loc 8] Γ = .ok (.d (fZ F)) Γ
theorem xY{nm:Tx×Tx}(hm:nm∈NM)(zx:Tx)(zw:Int):fZ (FV nm (dv zx zw)) = .lst [.none,.none,.none,.str zx]:=by
 simp only[NM,N7,Ou,or_false] at hm;rcases hm with rfl | rfl | rfl | rfl<;>rfl
theorem ends{nm:Tx×Tx}(hm:nm∈NM){plans:D}{B:List (Tx×Tx)}{F:cH}{L:List D}{kp:Option Mu}{Γ:ag}(n:Nat)(hB:fw B F)(h:iK nm plans (some (.sd (aD B))) (some (.list L)) kp Γ F L):Ends n Γ F L:=by
 obtain⟨v,⟨bk,lg,kp,K⟩,⟨hk,hG⟩,rfl,h1,h2,h3⟩:=h;dsimp only at h1 h2 h3;subst h1 h2 h3;rcases hG with⟨G,rfl⟩ | ⟨rfl,hv⟩
 ·exact⟨rfl,rfl,rfl,rfl,rfl,AL n hm 0 plans L hk _ G,Gf (n+2) hB _⟩
 ·refine⟨rfl,rfl,rfl,rfl,rfl,?_,Gf (n+2) hB _⟩
  have e:=xY hm v.zx v.zw;rw[<-hv] at e;rw[e];exact Lz n 0 plans _ L v.zx v.zw _
noncomputable abbrev mQ(a:Option V)(raw:Tx)(P:D)(c1:Int)(plans:D)(text:Tx)(N:D)(ws:List Tx)(due:Option V):aq:=[a,some (.d (.str raw)),some (.d P),some (.d (.int c1)),some (.d plans),some (.d (.str text)),some (.d N),some (.d (.int 6)),some (.d (au ws)),some (.loc 0),some (.loc 8),some (.loc 9),due]
noncomputable abbrev LN(plans N:D):ag:=[qQ 0,qP plans N,some (.sd []),some (.vd [(tZ,.loc 7)]),some (.sd []),some (.sd []),some (.list []),m4 sc d7 1,some (.sd (aD [(tZ,d7)])),some (.list [])]
theorem L6(n:Nat)(a:Option V)(raw:Tx)(P:D)(c1:Int)(plans:D)(text:Tx)(N:D)(ws:List Tx):((ei.from 5).uV 8).ex (TG oX) (calls TT FF (n+14)) .free (jl a raw P c1 plans text N 6 ws) [] = .ok .next (mQ a raw P c1 plans text N ws none) (LN plans N):=by kernel_rfl
theorem Kc(n:Nat)(a:Option V)(raw:Tx)(P:D)(c1:Int)(plans:D)(text:Tx)(l:List D)(ws:List Tx)(Γ:ag):(((ei.ak 13).we.ak 0).wt).ev (calls TT FF n) .free (TG oX) (mQ a raw P c1 plans text (.lst l) ws none) Γ = .ok false (mQ a raw P c1 plans text (.lst l) ws none) Γ:=by kernel_rfl
theorem J0(n:Nat)(a:Option V)(raw:Tx)(l:List D)(c1:Int)(plans:D)(text:Tx)(N:D)(ws:List Tx)(Γ:ag):((((ei.ak 13).we.ak 0).we.ak 0).wt).ev (calls TT FF n) .free (TG oX) (mQ a raw (.lst l) c1 plans text N ws none) Γ = .ok false (mQ a raw (.lst l) c1 plans text N ws none) Γ:=by kernel_rfl
theorem Dg(n:Nat){r:List Ch}{ds:List (Tx×Tx)}(g:GoodR r ds){text:Tx}{nm:Tx×Tx}(hq:(text,nm)∈NT){w:Tx}(hw:w∈W3){pls:List Plan}(hok : ∀p∈pls,bV p)(hpl:pls.length=4)(a:Option V)(c1:Int): ∃Γ,((ei.from 5).ex (TG oX) (calls TT FF (n+14)) .free (jl a (ax r) (.lst ((bJ ds).map bx)) c1 (aI pls) text (au [nm.1,nm.2]) 6 (dk (ax r) w text)) []).out = .ok (.d (.bool true)) Γ:=by
 have hm:=Am _ hq;obtain⟨B',x,hB',h57⟩:=Mt (o0:=qQ 0) (o1:=qP (aI pls) (au [nm.1,nm.2])) (o2:=some (.sd [])) (o3:=some (.vd [(tZ,.loc 7)])) (o4:=some (.sd [])) (o5:=some (.sd [])) (o6:=some (.list [])) (o7:=m4 sc d7 1) (n+11) (nm:=nm) (ps:=bJ ds) (pls:=pls) g.pl hpl hok g.dR (NP hm) (by simp)
 obtain⟨Γ',h51,hF⟩:=J1 (n:=n+3) (r:=r) (ds:=ds) (text:=text) (nm:=nm) (word:=w) (zx:=d7) (zw:=1) (bk:=some (.sd (aD B'))) (lg:=some (.list (spec nm (bJ ds) pls (FV nm (dv d7 1)) [] []).2.2)) (kp:=x) g hq hw hpl hok;obtain⟨sd1,sd2⟩:=BV (nm:=nm) (bJ ds) pls (FV nm (dv d7 1)) [] [] rfl;generalize hsp:spec nm (bJ ds) pls (FV nm (dv d7 1)) [] []=sp at *;have E:=ends hm (n+10) hB' hF;refine⟨Γ',aR (ρ:=mQ a (ax r) (.lst ((bJ ds).map bx)) c1 (aI pls) text (au [nm.1,nm.2]) (dk (ax r) w text) (some (.d sp.1))) (BU 8 _ _ _ (L6 n a (ax r) _ c1 (aI pls) text _ _) ?_)⟩
 refine af (s:=ei.ak 13) (ss:=ei.from 14) (ρ1:=mQ a (ax r) (.lst ((bJ ds).map bx)) c1 (aI pls) text (au [nm.1,nm.2]) (dk (ax r) w text) (some (.d sp.1))) (Γ1:=iD (aI pls) nm d7 1 (some (.sd (aD B'))) (some (.list sp.2.2)) x) ?_ ?_
 ·refine aw rfl (af (s:=(ei.ak 13).we.ak 0) (ss := .nil) (aw (Kc _ _ _ _ _ _ _ _ _ _) (af (s:=((ei.ak 13).we.ak 0).we.ak 0) (ss := .nil) (aw (J0 _ _ _ _ _ _ _ _ _ _) (af (aW (ρ1:=mQ a (ax r) (.lst ((bJ ds).map bx)) c1 (aI pls) text (au [nm.1,nm.2]) (dk (ax r) w text) none) (v := .d sp.1) (az (vs:=[.loc 8,.d (au [nm.1,nm.2]),.d (.lst ((bJ ds).map bx)),.d (aI pls),.d (.str cG),.loc 9]) (ad:=804) rfl rfl rfl (dj h57) rfl)) rfl)) rfl)) rfl)
 refine af (s:=ei.ak 14) (ss:=ei.from 15) (ρ1:=mQ a (ax r) (.lst ((bJ ds).map bx)) c1 (aI pls) text (au [nm.1,nm.2]) (dk (ax r) w text) (some (.d sp.1))) (Γ1:=Γ') (aw (G2 (E4 (aY (bc (r:=false) (az (vs:=[.loc 0,.d (au (dk (ax r) w text))]) (ad:=766) rfl rfl rfl (dj h51) rfl) rfl ?_) rfl) (E4 (aY (bc (r:=false) (cy rfl E.cq) rfl rfl) rfl) rfl))) rfl) ?_
 ·show(cg 9 sp.1 sp.1).map _=_
  rw[sd1];rfl
 refine aG (s:=ei.ak 15) (ss := .nil) (bP (r7 (qU (v := .d (.bool true)) (ρ1:=mQ a (ax r) (.lst ((bJ ds).map bx)) c1 (aI pls) text (au [nm.1,nm.2]) (dk (ax r) w text) (some (.d sp.1))) (Γ1:=Γ') (bc (aM (cy rfl E.a9) rfl E.log) rfl ?_) rfl (uT (bc (az (vs:=[.loc 0]) (ad:=745) rfl rfl rfl (dj E.AL) rfl) (az (vs:=[.loc 8]) (ad:=792) rfl rfl rfl (dj E.FD) rfl) ?_)))))
 ·show A6 Γ' (.loc 6) (.loc 9)=some true
  show(bq Γ' 6).bind _=_
  rw[E.g6];show(bq Γ' 9).bind _=_
  rw[E.g9];show Ag _ _=_
  unfold Ag;rw[OZ];exact sd2
 ·exact tS 8 _
theorem H3(n:Nat)(a:Option V)(raw:Tx)(P:D)(c1:Int)(plans:D){w:Tx}(hw:w∈W3){q:Tx×D}(hq:q∈BN):rX n a raw P c1 plans q.1 q.2 6 (dk raw w q.1)=some (.d (.bool true)):=aS (aS (G3 n a raw P c1 plans) w hw) q hq
theorem Hz(n:Nat)(a:Option V)(c1:Int)(plans:D){w:Tx}(hw:w∈W3){q:Tx×(Tx×Tx)}(hq:q∈NT){b:Tx×D}(hb:b∈iC):rX n a b.1 b.2 c1 plans q.1 (au [q.2.1,q.2.2]) 6 (dk b.1 w q.1)=some (.d (.bool true)):=aS (aS (aS (G5 n a c1 plans) w hw) q hq) b hb
theorem Ny(n:Nat){ns:List Int}(hns:ns.length<=63){raw:Tx}{P:D}(hD:Drawn raw P): ∃Γ,calls TT FF (n+15) true 58 [.d (.lst (ns.map .int)),.d (.str raw),.d P] [] = .ok (.d (.bool true)) Γ:=by
 obtain⟨pls,hok,hpl,text,N,hN,k,hk,w,hw,c1,hs⟩:=L5 (n+11) hns raw P;have hgo : ∃Γ,((ei.from 5).ex (TG oX) (calls TT FF (n+14)) .free (jl (some (.d (.lst (ns.map .int)))) raw P c1 (aI pls) text N (.ofNat k) (kM k raw w text)) []).out = .ok (.d (.bool true)) Γ:=by
  simp only[N7,Ou,or_false] at hk;rcases hk with rfl | rfl | rfl | rfl
  ·rw[show jl (some (.d (.lst (ns.map .int)))) raw P c1 (aI pls) text N (.ofNat 4) (kM 4 raw w text)=jl (some (.d (.lst (ns.map .int)))) raw P c1 (aI pls) text N 4 [[100,105,99,116],[102,105,108,116,101,114],raw,w] from rfl]
   exact RG.val_eq (aS (IC n _ raw P c1 (aI pls) text N) w hw)
  ·rw[show jl (some (.d (.lst (ns.map .int)))) raw P c1 (aI pls) text N (.ofNat 5) (kM 5 raw w text)=jl (some (.d (.lst (ns.map .int)))) raw P c1 (aI pls) text N 5 [[100,105,99,116],[102,105,108,116,101,114],raw,w,text] from rfl]
   exact RG.val_eq (aS (Il n _ raw P c1 (aI pls) text N) w hw)
  ·rw[show jl (some (.d (.lst (ns.map .int)))) raw P c1 (aI pls) text N (.ofNat 6) (kM 6 raw w text)=jl (some (.d (.lst (ns.map .int)))) raw P c1 (aI pls) text N 6 (dk raw w text) from rfl]
   rcases hN with hb | ⟨nm,hq,rfl⟩
   ·have h:=H3 n (some (.d (.lst (ns.map .int)))) raw P c1 (aI pls) hw hb
    dsimp only at h;exact RG.val_eq h
   ·rcases hD.cases with hb | ⟨r,ds,g,rfl,rfl⟩
    ·have h:=Hz n (some (.d (.lst (ns.map .int)))) c1 (aI pls) hw hq hb
     dsimp only at h;exact RG.val_eq h
    ·exact Dg n g hq hw hok hpl _ c1
  ·rw[show jl (some (.d (.lst (ns.map .int)))) raw P c1 (aI pls) text N (.ofNat 7) (kM 7 raw w text)=jl (some (.d (.lst (ns.map .int)))) raw P c1 (aI pls) text N 7 (qV raw w text) from rfl]
   exact RG.val_eq (aS (Io n _ raw P c1 (aI pls) text N) w hw)
 obtain⟨Γ,hgo⟩:=hgo;exact⟨Γ,aH (f:=IQ) rfl rfl ((congrArg Res.out (hs _ rfl)).trans hgo)⟩
theorem PL(ns:List Int)(hns:ns.length<=63): ∃Γ,calls TT FF 60 true 64 [.d (.lst (ns.map .int))] [] = .ok (.d (.bool true)) Γ:=by
 have h41:=ET 58 (ns:=ns) (bg ‹_›) 0 (72+(80 * (0+(45 * (11+(45 * (22+(45 * 38))))))));obtain⟨raw,P,Y2,h44,hD⟩:=Nk 57 (ns.getD 0 (72+(80 * (0+(45 * (11+(45 * (22+(45 * 38)))))))));obtain⟨Y3,h58⟩:=Ny 44 hns hD;obtain⟨Y4,h63⟩:=Nj 46 hns hD;refine⟨[],aH (f:=jC) rfl rfl (aR (ρ:=[some (.d (.lst (ns.map .int))),some (.d (.str raw)),some (.d P)]) ?_)⟩
 refine af (s:=zX.ak 0) (ss:=zX.from 1) (ρ1:=[some (.d (.lst (ns.map .int))),some (.d (.str raw)),some (.d P)]) (Γ1:=[]) (bo (v := .d (.tup [.str raw,P])) (ρ1:=[some (.d (.lst (ns.map .int))),none,none]) (Γ1:=[]) (az (ad:=719) rfl (aj (az (ad:=702) rfl rfl rfl (aN rfl h41) rfl) rfl) rfl (aN rfl h44) rfl) rfl) ?_
 exact aG (s:=zX.ak 1) (ss := .nil) (bP (r7 (qU (v := .d (.bool true)) (az (vs:=[.d (.lst (ns.map .int)),.d (.str raw),.d P]) (ad:=809) rfl rfl rfl (aN rfl h58) rfl) rfl (uT (az (vs:=[.d (.lst (ns.map .int)),.d (.str raw),.d P]) (ad:=840) rfl rfl rfl (aN rfl h63) rfl)))))
end Mine.Pl
end
set_option maxHeartbeats 8000000 in
theorem PySem.Challenge.cw_pb0573_01_holds : PySem.Challenge.rw_pb0573_01.Holds := by
 exact Mine.pf Mine.Pl.PL
